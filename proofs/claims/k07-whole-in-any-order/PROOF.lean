import PyProof.Rows.All
import Wide.All
import OpenK.AllK
import Wide.FinOn
import HandS.ForMost
import HandS.Call
import HandS.CallLocal
import HandS.Comp
import HandS.Conv
import HandS.Deep
import HandS.Defaults
import HandS.Dict
import HandS.ExcIs
import HandS.ExcOwn
import HandS.IsInst
import HandS.Iter
import HandS.List
import HandS.More
import HandS.SetFor
import HandS.SetKeys
import HandS.SortInts
import HandS.SortRule
import HandS.Spec
import HandS.Style
import HandS.Text
import HandS.TupAny
import HandS.TupMul
import HandS.Wide
import HandS.WideBits
import HandS.Words
import HandS.WordsExc
import HandS.Zip
import KE.KDictZip
import KE.KUnpack
import OpenK.KOps
import PyProof.ExcBaseAll.ValueError
import PySem.Challenge.RW_pushproof_k07_whole_in_any_order
set_option Elab.async false
set_option linter.all false
set_option maxRecDepth 100000
set_option autoImplicit false
namespace DL
open PySem PySem.Spec PyProof.Rows L2
/-! ## keys: whole numbers, texts, tuples of keys -/
inductive NK where
  | int (i : Int) | str (x : Str) | tup (ks : List NK)
mutual
def NK.deq : (a b : NK) → Decidable (a = b)
  | .int i, .int j => if h : i = j then .isTrue (by rw [h]) else .isFalse fun e => h (by injection e)
  | .str x, .str y => if h : x = y then .isTrue (by rw [h]) else .isFalse fun e => h (by injection e)
  | .tup xs, .tup ys => match NK.deqs xs ys with
    | .isTrue h => .isTrue (by rw [h])
    | .isFalse h => .isFalse fun e => h (by injection e)
  | .int _, .str _ => .isFalse fun e => by cases e
  | .int _, .tup _ => .isFalse fun e => by cases e
  | .str _, .int _ => .isFalse fun e => by cases e
  | .str _, .tup _ => .isFalse fun e => by cases e
  | .tup _, .int _ => .isFalse fun e => by cases e
  | .tup _, .str _ => .isFalse fun e => by cases e
def NK.deqs : (a b : List NK) → Decidable (a = b)
  | [], [] => .isTrue rfl
  | [], _ :: _ => .isFalse fun e => by cases e
  | _ :: _, [] => .isFalse fun e => by cases e
  | a :: as, b :: bs => match NK.deq a b with
    | .isFalse h => .isFalse fun e => h (by injection e)
    | .isTrue h => match NK.deqs as bs with
      | .isTrue g => .isTrue (by rw [h, g])
      | .isFalse g => .isFalse fun e => g (by injection e)
end
instance : DecidableEq NK := NK.deq
mutual
def NK.dep : NK → Nat
  | .int _ => 0
  | .str _ => 0
  | .tup ks => NK.deps ks + 1
def NK.deps : List NK → Nat
  | [] => 0
  | k :: ks => max (NK.dep k) (NK.deps ks)
end
theorem NK.dep_le : ∀ {ks : List NK} {k : NK}, k ∈ ks → k.dep ≤ NK.deps ks
  | [], _, h => by cases h
  | j :: ks, k, h => by
    simp only [NK.deps]
    rcases List.mem_cons.mp h with rfl | h
    · exact Nat.le_max_left _ _
    · exact Nat.le_trans (NK.dep_le h) (Nat.le_max_right _ _)
mutual
/-- induction over keys, with all items of a tuple at once -/
theorem NK.ind {P : NK → Prop} (hi : ∀ i, P (.int i)) (hs : ∀ x, P (.str x)) (ht : ∀ ks, (∀ k ∈ ks, P k) → P (.tup ks)) : ∀ k, P k
  | .int i => hi i
  | .str x => hs x
  | .tup ks => ht ks (NK.inds hi hs ht ks)
theorem NK.inds {P : NK → Prop} (hi : ∀ i, P (.int i)) (hs : ∀ x, P (.str x)) (ht : ∀ ks, (∀ k ∈ ks, P k) → P (.tup ks)) : ∀ ks : List NK, ∀ k ∈ ks, P k
  | [], k, h => by cases h
  | j :: ks, k, h => by
    rcases List.mem_cons.mp h with e | h
    · rw [e]; exact NK.ind hi hs ht j
    · exact NK.inds hi hs ht ks k h
end
/-- a key stands at a value -/
def NKs (P : NK → Value → Prop) : List NK → List Value → Prop
  | [], us => us = []
  | k :: ks, us => ∃ u r, us = u :: r ∧ P k u ∧ NKs P ks r
mutual
def NKAt (h : Heap) : NK → Value → Prop
  | .int i, u => ∃ t, u = .int i t
  | .str x, u => ∃ t, u = .str x t
  | .tup ks, u => ∃ a its, u = .ref a ∧ IsTup h a its ∧ NKAts h ks its.toList
def NKAts (h : Heap) : List NK → List Value → Prop
  | [], us => us = []
  | k :: ks, us => ∃ u r, us = u :: r ∧ NKAt h k u ∧ NKAts h ks r
end
section
variable {h h' : Heap}
theorem NKAts.len : ∀ {ks : List NK} {us : List Value}, NKAts h ks us → us.length = ks.length
  | [], us, e => by simp only [NKAts] at e; rw [e]; rfl
  | k :: ks, us, e => by
    simp only [NKAts] at e
    obtain ⟨u, r, rfl, _, q⟩ := e
    simp [NKAts.len q]
theorem NKAts.get : ∀ {ks : List NK} {us : List Value} (j : Nat) (h1 : j < ks.length) (h2 : j < us.length), NKAts h ks us → NKAt h ks[j] us[j]
  | [], _, j, h1, _, _ => by simp at h1
  | k :: ks, us, j, h1, h2, e => by
    simp only [NKAts] at e
    obtain ⟨u, r, rfl, q1, q2⟩ := e
    cases j with
    | zero => exact q1
    | succ j => exact NKAts.get j (by simpa using h1) (by simpa using h2) q2
theorem NKAt.inj : ∀ (x : NK) {y : NK} {u : Value}, NKAt h x u → NKAt h y u → x = y := by
  refine NK.ind (fun i y u h1 h2 => ?_) (fun z y u h1 h2 => ?_) fun ks ih y u h1 h2 => ?_
  · simp only [NKAt] at h1
    obtain ⟨t, rfl⟩ := h1
    cases y <;> simp only [NKAt] at h2
    · obtain ⟨t2, e⟩ := h2; cases e; rfl
    · obtain ⟨t2, e⟩ := h2; cases e
    · obtain ⟨a, its, e, _⟩ := h2; cases e
  · simp only [NKAt] at h1
    obtain ⟨t, rfl⟩ := h1
    cases y <;> simp only [NKAt] at h2
    · obtain ⟨t2, e⟩ := h2; cases e
    · obtain ⟨t2, e⟩ := h2; cases e; rfl
    · obtain ⟨a, its, e, _⟩ := h2; cases e
  · simp only [NKAt] at h1
    obtain ⟨a, its, rfl, ⟨o, e1, _, n, e2⟩, q⟩ := h1
    cases y with
    | int _ => simp only [NKAt] at h2; obtain ⟨_, e⟩ := h2; cases e
    | str _ => simp only [NKAt] at h2; obtain ⟨_, e⟩ := h2; cases e
    | tup js =>
      simp only [NKAt] at h2
      obtain ⟨b, its', e, ⟨o', e3, _, n', e4⟩, q'⟩ := h2
      cases e
      rw [e1] at e3; cases e3
      rw [e2] at e4
      injection e4 with e5 _
      subst e5
      have go : ∀ (ks js : List NK) (us : List Value), (∀ k ∈ ks, ∀ {y : NK} {u : Value}, NKAt h k u → NKAt h y u → k = y) → NKAts h ks us → NKAts h js us → ks = js := by
        intro ks
        induction ks with
        | nil =>
          intro js us _ p1 p2
          simp only [NKAts] at p1
          subst p1
          cases js with
          | nil => rfl
          | cons _ _ => simp only [NKAts] at p2; obtain ⟨_, _, e, _⟩ := p2; cases e
        | cons k ks ih2 =>
          intro js us H p1 p2
          simp only [NKAts] at p1
          obtain ⟨u, r, rfl, p3, p4⟩ := p1
          cases js with
          | nil => simp only [NKAts] at p2; cases p2
          | cons j js =>
            simp only [NKAts] at p2
            obtain ⟨u', r', e, p5, p6⟩ := p2
            cases e
            rw [H k (by simp) p3 p5, ih2 js r (fun k' hk => H k' (by simp [hk])) p4 p6]
      rw [go ks js _ (fun k hk {_ _} a b => ih k hk a b) q q']
theorem NKAt.keep (kp : ∀ a its, IsTup h a its → IsTup h' a its) : ∀ (x : NK) {u : Value}, NKAt h x u → NKAt h' x u := by
  refine NK.ind (fun i u h1 => ?_) (fun z u h1 => ?_) fun ks ih u h1 => ?_
  · simpa only [NKAt] using h1
  · simpa only [NKAt] using h1
  · simp only [NKAt] at h1 ⊢
    obtain ⟨a, its, rfl, q1, q2⟩ := h1
    refine ⟨a, its, rfl, kp a its q1, ?_⟩
    have go : ∀ (ks : List NK) (us : List Value), (∀ k ∈ ks, ∀ {u : Value}, NKAt h k u → NKAt h' k u) → NKAts h ks us → NKAts h' ks us := by
      intro ks
      induction ks with
      | nil => intro us _ p; simpa only [NKAts] using p
      | cons k ks ih2 =>
        intro us H p
        simp only [NKAts] at p ⊢
        obtain ⟨u, r, rfl, p1, p2⟩ := p
        exact ⟨u, r, rfl, H k (by simp) p1, ih2 r (fun k' hk => H k' (by simp [hk])) p2⟩
    exact go ks _ (fun k hk {_} a => ih k hk a) q2
end
/-! ### == of keys -/
theorem all_dec : ∀ (xs ys : List NK), ((List.range (min xs.length ys.length)).all (fun j => decide (xs[j]? = ys[j]?)) && xs.length == ys.length) = decide (xs = ys) := by
  intro xs ys
  by_cases e : xs = ys
  · subst e
    simp
  · rw [decide_eq_false e]
    by_cases l : xs.length = ys.length
    · have : ¬ ∀ j, xs[j]? = ys[j]? := fun q => e (List.ext_getElem? q)
      obtain ⟨j, hj⟩ := Classical.not_forall.mp this
      have hlt : j < xs.length := by
        apply Classical.byContradiction
        intro q
        exact hj (by rw [List.getElem?_eq_none (by omega), List.getElem?_eq_none (by omega)])
      rw [Bool.and_eq_false_iff]
      left
      rw [List.all_eq_false]
      exact ⟨j, by rw [List.mem_range]; omega, by simp [hj]⟩
    · simp [l]
open SeqAt in
theorem nk_eq {s : Shared} : ∀ (x : NK) {y : NK} {u v : Value} {A : Around}, A.units + x.dep < cLine → NKAt s.heap x u → NKAt s.heap y v → EqAt A s u v (decide (x = y)) := by
  refine NK.ind (fun i y u v A hu h1 h2 => ?_) (fun z y u v A hu h1 h2 => ?_) fun ks ih y u v A hu h1 h2 => ?_
  · simp only [NKAt] at h1
    obtain ⟨t, rfl⟩ := h1
    cases y with
    | int j =>
      simp only [NKAt] at h2
      obtain ⟨t2, rfl⟩ := h2
      have : decide (NK.int i = NK.int j) = (i == j) := by
        by_cases e : i = j
        · subst e; simp
        · rw [decide_eq_false (fun q => e (by injection q))]; simp [e]
      rw [this]
      exact EqAt.int_int i t j t2
    | str z =>
      simp only [NKAt] at h2
      obtain ⟨t2, rfl⟩ := h2
      rw [decide_eq_false (fun q => by cases q)]
      exact EqAt.int_str i t z t2
    | tup js =>
      simp only [NKAt] at h2
      obtain ⟨b, its, rfl, q, _⟩ := h2
      rw [decide_eq_false (fun q => by cases q)]
      exact EqAt.int_tuple i t (show s.heap.IsTuple b its from q) (by omega)
  · simp only [NKAt] at h1
    obtain ⟨t, rfl⟩ := h1
    cases y with
    | int j =>
      simp only [NKAt] at h2
      obtain ⟨t2, rfl⟩ := h2
      rw [decide_eq_false (fun q => by cases q)]
      exact EqAt.str_int z t j t2
    | str z' =>
      simp only [NKAt] at h2
      obtain ⟨t2, rfl⟩ := h2
      have : decide (NK.str z = NK.str z') = (z == z') := by
        by_cases e : z = z'
        · subst e; simp
        · rw [decide_eq_false (fun q => e (by injection q))]; simp [e]
      rw [this]
      exact EqAt.str_str z t z' t2
    | tup js =>
      simp only [NKAt] at h2
      obtain ⟨b, its, rfl, q, _⟩ := h2
      rw [decide_eq_false (fun q => by cases q)]
      exact EqAt.str_tuple z t (show s.heap.IsTuple b its from q) (by omega)
  · have hd : (NK.tup ks).dep = NK.deps ks + 1 := by simp only [NK.dep]
    rw [hd] at hu
    have h1' := h1
    simp only [NKAt] at h1
    obtain ⟨a, its, rfl, p1, p2⟩ := h1
    cases y with
    | int j =>
      simp only [NKAt] at h2
      obtain ⟨t2, rfl⟩ := h2
      rw [decide_eq_false (fun q => by cases q)]
      exact EqAt.tuple_int j t2 (show s.heap.IsTuple a its from p1) (by omega)
    | str z =>
      simp only [NKAt] at h2
      obtain ⟨t2, rfl⟩ := h2
      rw [decide_eq_false (fun q => by cases q)]
      exact EqAt.tuple_str z t2 (show s.heap.IsTuple a its from p1) (by omega)
    | tup js =>
      have h2' := h2
      simp only [NKAt] at h2
      obtain ⟨b, its', rfl, p3, p4⟩ := h2
      by_cases hab : a = b
      · subst hab
        rw [decide_eq_true (NKAt.inj _ h1' h2')]
        exact EqAt.same _
      · refine EqAt.of_refs hab ?_
        have l1 := p2.len
        have l2 := p4.len
        rw [Array.length_toList] at l1 l2
        have e0 := all_dec ks js
        have e1 : decide (NK.tup ks = NK.tup js) = decide (ks = js) := by
          by_cases e : ks = js
          · subst e; simp
          · rw [decide_eq_false e, decide_eq_false (fun q => e (by injection q))]
        rw [e1, ← e0, ← l1, ← l2]
        refine RcAt.tuples (show s.heap.IsTuple a its from p1) (show s.heap.IsTuple b its' from p3) (by omega) fun j g1 g2 => ?_
        have g1' : j < ks.length := by omega
        have g2' : j < js.length := by omega
        have q1 := p2.get j g1' (by simpa using g1)
        have q2 := p4.get j g2' (by simpa using g2)
        rw [Array.getElem_toList] at q1 q2
        have := ih ks[j] (List.getElem_mem g1') (A := A.in1) (by
          have := NK.dep_le (List.getElem_mem g1')
          show A.units + 1 + _ < _
          omega) q1 q2
        rw [List.getElem?_eq_getElem g1', List.getElem?_eq_getElem g2']
        simpa using this
end DL

set_option Elab.async false
set_option linter.all false
set_option maxRecDepth 100000
set_option autoImplicit false
namespace DL
open PySem PySem.Spec PyProof.Rows L2
mutual
def nkHash (w : World) : NK → Int
  | .int i => hashInt i
  | .str x => hashStr w x
  | .tup ks => reduceHash (Builtin.Tuple.tupleHashOf (nkHashs w ks))
def nkHashs (w : World) : List NK → List Int
  | [] => []
  | k :: ks => nkHash w k :: nkHashs w ks
end
mutual
def nkDraw : NK → Nat
  | .int _ => 1
  | .str _ => 1
  | .tup ks => nkDraws ks + 1
def nkDraws : List NK → Nat
  | [] => 0
  | k :: ks => nkDraw k + nkDraws ks
end
theorem nkHashs_app {w : World} : ∀ a b : List NK, nkHashs w (a ++ b) = nkHashs w a ++ nkHashs w b
  | [], b => rfl
  | x :: a, b => by
    show nkHashs w (x :: (a ++ b)) = _
    simp only [nkHashs, List.cons_append, nkHashs_app a b]
theorem nkDraws_app : ∀ a b : List NK, nkDraws (a ++ b) = nkDraws a + nkDraws b
  | [], b => by simp [nkDraws]
  | x :: a, b => by
    show nkDraws (x :: (a ++ b)) = _
    simp only [nkDraws, nkDraws_app a b]; omega
theorem nk_hash {prog : Program} {w : World} : ∀ (x : NK) {A : Around} {E : Value → Shared → Prop} {s : Shared} {u : Value} {Q : Int → Shared → Prop}, A.units + x.dep < cLine → NKAt s.heap x u → Q (nkHash w x) { s with toks := s.toks + nkDraw x } → wpAny (model prog w) A (pyHash u) Q E s := by
  refine NK.ind (fun i A E s u Q hu h1 h => ?_) (fun z A E s u Q hu h1 h => ?_) fun ks ih A E s u Q hu h1 h => ?_
  · simp only [NKAt] at h1
    obtain ⟨t, rfl⟩ := h1
    exact wpAny_pyHash_int h
  · simp only [NKAt] at h1
    obtain ⟨t, rfl⟩ := h1
    exact wpAny_pyHash_str h
  · have hd : (NK.tup ks).dep = NK.deps ks + 1 := by simp only [NK.dep]
    rw [hd] at hu
    simp only [NKAt] at h1
    obtain ⟨a, its, rfl, ⟨o, e1, e2, n, e3⟩, p2⟩ := h1
    have hT : s.TypeIs (.ref a) "tuple" := ⟨o, e1, e2⟩
    have hl : A.units < cLine := by omega
    unfold pyHash
    first | unfold pyHashByItsType | skip
    first | (refine wpAny_bind (wpAny_cRoomFor_or (.inr hl) ?_)) | skip
    refine wpAny_bind (wpAny_specialOf hT F.slot_tuple_hash.lookup ?_)
    show wpAny _ _ (if (some (Value.builtin "tuple.__hash__") == some Value.none) = true then _ else _) _ _ _
    rw [if_neg (by rw [beq_builtin_none]; decide)]
    refine wpAny_bind (wpAny_specialOf hT F.slot_tuple_hash.lookup ?_)
    show wpAny _ _ (callSpecialIfBoundUnlessNone? (Value.ref a) "__hash__" _ >>= _) _ _ _
    refine wpAny_bind (wpAny_callSpecialIfBoundUnlessNone?_slot hT F.slot_tuple_hash (wpAny_call_entry F.slot_tuple_hash hT F.entry_tuple_hash ?_ (F.args_tuple_hash_1 _)))
    show wpAny _ _ (Builtin.Tuple.tupleItemsOf (Value.ref a) >>= _) _ _ _
    refine wpAny_bind (wpAny_tupleItemsOf e1 e3 ?_)
    refine wpAny_bind ?_
    rw [← Array.forIn_toList]
    refine wpAny_forIn_list _ (fun rest (b : Array Int) s' => ∃ d l, ks = d ++ l ∧ NKAts s.heap l rest ∧ b.toList = nkHashs w d ∧ s' = { s with toks := s.toks + nkDraws d }) _ ?_ ?_ _ _ ⟨[], ks, rfl, p2, rfl, rfl⟩
    · rintro y rest b s' ⟨d, l, e, hl', hb, rfl⟩
      cases l with
      | nil => simp only [NKAts] at hl'; cases hl'
      | cons k l =>
        simp only [NKAts] at hl'
        obtain ⟨u', r', e', q1, q2⟩ := hl'
        cases e'
        have km : k ∈ ks := by rw [e]; simp
        have kd := NK.dep_le km
        refine wpAny_bind (ih k km (A := A.in1) (by show A.units + 1 + _ < _; omega) q1 ?_)
        have fin : ∃ d' l', ks = d' ++ l' ∧ NKAts s.heap l' rest ∧ (b.push (nkHash w k)).toList = nkHashs w d' ∧ ({ s with toks := s.toks + nkDraws d + nkDraw k } : Shared) = { s with toks := s.toks + nkDraws d' } :=
          ⟨d ++ [k], l, by rw [e]; simp, q2, by rw [nkHashs_app, Array.toList_push, hb]; simp [nkHashs], by rw [nkDraws_app]; simp [nkDraws, Nat.add_assoc]⟩
        first
          | exact wpAny_pure fin
          | exact wpAny_bind (wpAny_pure (wpAny_pure fin))
    · rintro b s' ⟨d, l, e, hl', hb, rfl⟩
      cases l with
      | cons k l => simp only [NKAts] at hl'; obtain ⟨_, _, z, _⟩ := hl'; cases z
      | nil =>
      rw [List.append_nil] at e
      subst e
      show wpAny _ _ (retInt (Builtin.Tuple.tupleHashOf b.toList)) _ _ _
      rw [hb]
      refine wpAny_ret_mkInt ?_
      simp only [nkHash, nkDraw] at h
      unfold reduceHash at h
      show wpAny _ _ (if (decide (-(2 : Int) ^ 63 ≤ Builtin.Tuple.tupleHashOf (nkHashs w ks)) && decide (Builtin.Tuple.tupleHashOf (nkHashs w ks) < 2 ^ 63)) = true then _ else _) Q E _
      by_cases hr : (decide (-(2 : Int) ^ 63 ≤ Builtin.Tuple.tupleHashOf (nkHashs w ks)) && decide (Builtin.Tuple.tupleHashOf (nkHashs w ks) < 2 ^ 63)) = true
      · rw [if_pos hr] at h ⊢
        exact wpAny_pure (by simpa [Nat.add_assoc] using h)
      · rw [if_neg hr] at h ⊢
        exact wpAny_bind (wpAny_rule (wpAny_pure (by simpa [Nat.add_assoc] using h)))
theorem nk_quiet {prog : Program} {w : World} : ∀ (x : NK) {m : Nat} {A : Around} {E : Value → Shared → Prop} {s : Shared} {u : Value} {Q : Bool → Shared → Prop}, x.dep ≤ m → NKAt s.heap x u → Q true s → wpAny (model prog w) A (eqIsQuiet m u) Q E s := by
  refine NK.ind (fun i m A E s u Q hm h1 h => ?_) (fun z m A E s u Q hm h1 h => ?_) fun ks ih m A E s u Q hm h1 h => ?_
  · simp only [NKAt] at h1
    obtain ⟨t, rfl⟩ := h1
    rw [eqIsQuiet_byValue m rfl]
    exact wpAny_pure h
  · simp only [NKAt] at h1
    obtain ⟨t, rfl⟩ := h1
    rw [eqIsQuiet_byValue m rfl]
    exact wpAny_pure h
  · have hd : (NK.tup ks).dep = NK.deps ks + 1 := by simp only [NK.dep]
    rw [hd] at hm
    obtain ⟨m, rfl⟩ : ∃ j, m = j + 1 := ⟨m - 1, by omega⟩
    simp only [NKAt] at h1
    obtain ⟨a, its, rfl, ⟨o, e1, e2, n, e3⟩, p2⟩ := h1
    have hT : s.TypeIs (.ref a) "tuple" := ⟨o, e1, e2⟩
    unfold eqIsQuiet
    refine wpAny_bind (wpAny_specialOf hT F.slot_tuple_eq.lookup ?_)
    show wpAny _ _ (isInstance (Value.ref a) (Value.type "tuple") >>= _) _ _ _
    refine wpAny_bind (wpAny_isInstance hT isSubtype_tuple_tuple ?_)
    simp only [Bool.not_true, Bool.false_eq_true, if_false]
    refine wpAny_bind (wpAny_seqItems e1 e3 ?_)
    refine wpAny_bind ?_
    show wpAny _ _ (forIn its _ _) _ _ _
    rw [← Array.forIn_toList]
    refine wpAny_forIn_list _ (fun rest r s' => r.1 = none ∧ s' = s ∧ ∃ l, (∀ k ∈ l, k ∈ ks) ∧ NKAts s.heap l rest) _ ?_ ?_ _ _ ⟨rfl, rfl, ks, fun _ z => z, p2⟩
    · rintro y rest r s' ⟨hr, rfl, l, hl, q⟩
      cases l with
      | nil => simp only [NKAts] at q; cases q
      | cons k l =>
        simp only [NKAts] at q
        obtain ⟨u', r', e', q1, q2⟩ := q
        cases e'
        have km := hl k (by simp)
        have kd := NK.dep_le km
        refine wpAny_bind (ih k km (by omega) q1 ?_)
        simp only [Bool.not_true, Bool.false_eq_true, if_false]
        exact wpAny_pure ⟨rfl, rfl, l, fun z hz => hl z (by simp [hz]), q2⟩
    · rintro ⟨r1, r2⟩ s' ⟨hr, rfl, _⟩
      simp only at hr
      subst hr
      exact wpAny_pure h
/-- the kind of dicts with such keys -/
def nkKind (prog : Program) (w : World) : HeapKind prog w NK where
  is := fun h k a => NKAt h k (.ref a) ∧ k.dep ≤ 8
  hash := nkHash w
  draws := nkDraw
  room := fun A => A.units + 10 < cLine
  inj := fun hx hy => NKAt.inj _ hx.1 hy.1
  keeps := fun {h h' k a d o es ep} x ho hd hs => ⟨NKAt.keep (fun b its ⟨o', e1, e2, n, e3⟩ => ⟨o', (hs.2 b (by
      rintro rfl
      rw [ho] at e1; cases e1
      rw [hd] at e3; cases e3)).trans e1, e2, n, e3⟩) k x.1, x.2⟩
  pyHash := fun {A E s k a Q} hu hk h => nk_hash k (by have := hk.2; omega) hk.1 h
  eqBool := fun {A E s x y a b Q} hu hx hy h => nk_eq x (by have := hx.2; omega) hx.1 hy.1 prog w E Q h
  quiet := fun {A E s k a Q} hk h => nk_quiet k hk.2 hk.1 h
end DL

set_option Elab.async false
set_option linter.all false
set_option maxRecDepth 100000
set_option autoImplicit false
/-! zip over two lists, its pairs stored whole: the last pair may be held, or gone -/
namespace L2
open PySem PySem.Spec PyProof.Rows
section
variable {prog : Program} {w : World} {A : Around} {E : Value → Shared → Prop} {s : Shared}
theorem dead_any {T : Addr} {Q : Option Obj → Shared → Prop} (ht : s.heap.get? T = none) (h : Q none s) : wpAny (model prog w) A (loadIfAlive T) Q E s := by
  have q : Q (s.heap.get? T) s := by rw [ht]; exact h
  exact fun _ _ _ => q
theorem free_dead {zo TI TO T : Addr} {f : Bool} {Q : Bool → Shared → Prop} (hzo : IsZipHeld s.heap zo TI TO T f) (ht : s.heap.get? T = none) (h : Q true s) : wpAny (model prog w) A (Builtin.SmallTypes.ownedTupleIsFree (.ref zo)) Q E s := by
  unfold Builtin.SmallTypes.ownedTupleIsFree
  refine wpAny_bind (wpAny_field hzo rfl (x := rawInt T) rfl ?_)
  show wpAny _ _ (loadIfAlive (Int.toNat (T : Int)) >>= _) _ _ _
  rw [Int.toNat_natCast]
  refine wpAny_bind (dead_any ht ?_)
  simp only [Option.isNone_none, if_true]
  exact wpAny_pure h
/-- the zip object amid a step -/
def ZMid (h : Heap) (zo TI TO : Addr) (f0 : Value) (f : Bool) : Prop := h.get? zo = some { cls := .type "zip", dict := none, data := .fields #[f0, .bool f, .bool false, .ref TI, .ref TO], slots := #[] }
theorem dead_next {zo TI TO T i1 i2 l1 l2 : Addr} {f : Bool} {m n : Nat} {us vs : Array Value} {u v a b : Value} {Q : Value → Shared → Prop} (D : ZipApart zo TI TO i1 i2 l1 l2)
    (hzo : IsZipHeld s.heap zo TI TO T f) (ht : s.heap.get? T = none) (hI : IsPair s.heap TI (.ref i1) (.ref i2)) (hO : IsPair s.heap TO a b)
    (w1 : s.heap.IsListIter i1 l1 m) (w2 : s.heap.IsListIter i2 l2 n) (wl1 : s.heap.IsList l1 us) (wl2 : s.heap.IsList l2 vs) (eu : us[m]? = some u) (ev : vs[n]? = some v)
    (hQ : ∀ h', IsZip h' zo TI TO (rawInt s.heap.objs.size) → IsPair h' TO u v → h'.IsListIter i1 l1 (m + 1) → h'.IsListIter i2 l2 (n + 1) → IsPair h' s.heap.objs.size u v → h'.objs.size = s.heap.objs.size + 1 →
      (∀ c o, c ≠ zo → c ≠ TO → c ≠ i1 → c ≠ i2 → s.heap.get? c = some o → h'.get? c = some o) → Q (.ref s.heap.objs.size) { s with heap := h' }) :
    wpAny (model prog w) A (Builtin.«zip.__next__» ⟨[.ref zo], []⟩) (fun fin s' => ∃ v, fin = .done (.ret v) ∧ Q v s') E s := by
  show wpAny _ _ (field (.ref zo) 2 >>= _) _ _ _
  refine wpAny_bind (wpAny_field hzo rfl (x := .bool false) rfl ?_)
  show wpAny _ _ (field (.ref zo) 3 >>= _) _ _ _
  refine wpAny_bind (wpAny_field hzo rfl (x := .ref TI) rfl ?_)
  refine wpAny_bind (wpAny_seqItems hI rfl ?_)
  show wpAny _ _ (Builtin.SmallTypes.ownedTupleIsFree (.ref zo) >>= _) _ _ _
  refine wpAny_bind (free_dead hzo ht ?_)
  simp only [if_true]
  refine wpAny_bind (wpAny_rule ?_)
  refine wpAny_bind (wpAny_field hzo rfl (x := .ref TO) rfl ?_)
  refine wpAny_bind (wpAny_setField_rec hzo (by simp) fun g1 z1 p1 => ?_)
  replace z1 : ZMid g1 zo TI TO .ellipsis f := z1
  refine wpAny_bind ?_
  simp only [List.zipIdx_cons, List.zipIdx_nil, List.forIn_cons, List.forIn_nil]
  -- the first part
  refine wpAny_bind (wpAny_bind (wpAny_onRaise ?_))
  show wpAny _ _ (Builtin.SmallTypes.nextOf (.ref i1) >>= _) _ _ _
  refine wpAny_bind (wpAny_nextOf_list_item (w1.extBut p1.extBut D.i1z) (wl1.extBut p1.extBut D.l1z) eu fun g2 j2 p2 => wpAny_pure ?_)
  have o2 : IsPair g2 TO a b := p2.extBut _ _ D.TOi1 (p1.extBut _ _ D.TOz hO)
  refine wpAny_bind (wpAny_seqItems o2 rfl ?_)
  refine wpAny_bind (wpAny_updateSeq_pair o2 fun g3 o3 p3 => ?_)
  replace o3 : IsPair g3 TO u b := o3
  refine wpAny_bind (wpAny_letGo (wpAny_pure ?_))
  -- the second part
  refine wpAny_bind (wpAny_bind (wpAny_onRaise ?_))
  show wpAny _ _ (Builtin.SmallTypes.nextOf (.ref i2) >>= _) _ _ _
  have w23 := ((w2.extBut p1.extBut D.i2z).extBut p2.extBut D.i12.symm).extBut p3.extBut D.TOi2.symm
  have wl23 := ((wl2.extBut p1.extBut D.l2z).extBut p2.extBut D.l2i1).extBut p3.extBut D.l2TO
  refine wpAny_bind (wpAny_nextOf_list_item w23 wl23 ev fun g4 j4 p4 => wpAny_pure ?_)
  have o4 : IsPair g4 TO u b := p4.extBut _ _ D.TOi2 o3
  refine wpAny_bind (wpAny_seqItems o4 rfl ?_)
  refine wpAny_bind (wpAny_updateSeq_pair o4 fun g5 o5 p5 => ?_)
  replace o5 : IsPair g5 TO u v := o5
  refine wpAny_bind (wpAny_letGo (wpAny_pure (wpAny_pure ?_)))
  -- a new pair of what is kept
  refine wpAny_bind (wpAny_seqItems o5 rfl ?_)
  refine wpAny_bind (wpAny_newTuple ?_)
  have sz5 : g5.objs.size = s.heap.objs.size := (((p5.1.trans p4.1).trans p3.1).trans p2.1).trans p1.1
  have z5 : ZMid g5 zo TI TO .ellipsis f := p5.extBut _ _ D.TOz.symm (p4.extBut _ _ D.i2z.symm (p3.extBut _ _ D.TOz.symm (p2.extBut _ _ D.i1z.symm z1)))
  have up5 : ∀ c o, c ≠ zo → c ≠ TO → c ≠ i1 → c ≠ i2 → s.heap.get? c = some o → g5.get? c = some o := fun c o n1 n2 n3 n4 q =>
    p5.extBut _ _ n2 (p4.extBut _ _ n4 (p3.extBut _ _ n2 (p2.extBut _ _ n3 (p1.extBut _ _ n1 q))))
  have w15 : g5.IsListIter i1 l1 (m + 1) := ((j2.extBut p3.extBut D.TOi1.symm).extBut p4.extBut D.i12).extBut p5.extBut D.TOi1.symm
  have w25 : g5.IsListIter i2 l2 (n + 1) := j4.extBut p5.extBut D.TOi2.symm
  have lz : zo < g5.objs.size := Heap.lt_size z5
  show wpAny _ _ (Builtin.SmallTypes.ownedTupleHandOut (.ref zo) (.ref g5.objs.size) >>= _) _ _ _
  refine wpAny_bind ?_
  unfold Builtin.SmallTypes.ownedTupleHandOut
  have z6 : ZMid (g5.push { cls := .type "tuple", data := .seq #[u, v] }) zo TI TO .ellipsis f := Heap.get?_push_of_some _ z5
  refine wpAny_bind (wpAny_setField_rec z6 (by simp) fun g7 z7 p7 => ?_)
  replace z7 : ZMid g7 zo TI TO (rawInt g5.objs.size) f := z7
  refine wpAny_setField_rec z7 (by simp) fun g8 z8 p8 => ?_
  replace z8 : IsZip g8 zo TI TO (rawInt g5.objs.size) := z8
  have up8 : ∀ c o, c ≠ zo → g5.get? c = some o → g8.get? c = some o := fun c o n1 q => p8.extBut _ _ n1 (p7.extBut _ _ n1 (Heap.get?_push_of_some _ q))
  have t8 : IsPair g8 g5.objs.size u v := p8.extBut _ _ (Nat.ne_of_gt lz) (p7.extBut _ _ (Nat.ne_of_gt lz) (Heap.get?_push_size _ rfl))
  have sz8 : g8.objs.size = g5.objs.size + 1 := by rw [p8.1, p7.1, Heap.size_push]
  rw [sz5] at z8 t8 sz8
  refine wpAny_pure ⟨_, rfl, ?_⟩
  show Q (.ref g5.objs.size) _
  rw [sz5]
  exact hQ g8 z8 (up8 _ _ D.TOz o5) (w15.at fun o q => up8 _ o D.i1z q) (w25.at fun o q => up8 _ o D.i2z q) t8 sz8 fun c o n1 n2 n3 n4 q => up8 c o n1 (up5 c o n1 n2 n3 n4 q)
theorem dead_stop {zo TI TO T i1 i2 l1 l2 : Addr} {f : Bool} {m n : Nat} {us vs : Array Value} {a b : Value} {Q : Fin → Shared → Prop} (hh : A.handled = none) (D : ZipApart zo TI TO i1 i2 l1 l2)
    (hzo : IsZipHeld s.heap zo TI TO T f) (ht : s.heap.get? T = none) (hI : IsPair s.heap TI (.ref i1) (.ref i2)) (hO : IsPair s.heap TO a b)
    (w1 : s.heap.IsListIter i1 l1 m) (w2 : s.heap.IsListIter i2 l2 n) (wl1 : s.heap.IsList l1 us) (wl2 : s.heap.IsList l2 vs) (hend : us[m]? = none ∨ vs[n]? = none)
    (hE : ∀ h' e, (∀ c o, c ≠ zo → c ≠ TO → c ≠ i1 → c ≠ i2 → s.heap.get? c = some o → h'.get? c = some o) → (∃ o, h'.get? e = some o ∧ o.cls = .type "StopIteration") → E (.ref e) { s with heap := h' }) :
    wpAny (model prog w) A (Builtin.«zip.__next__» ⟨[.ref zo], []⟩) Q E s := by
  show wpAny _ _ (field (.ref zo) 2 >>= _) _ _ _
  refine wpAny_bind (wpAny_field hzo rfl (x := .bool false) rfl ?_)
  show wpAny _ _ (field (.ref zo) 3 >>= _) _ _ _
  refine wpAny_bind (wpAny_field hzo rfl (x := .ref TI) rfl ?_)
  refine wpAny_bind (wpAny_seqItems hI rfl ?_)
  show wpAny _ _ (Builtin.SmallTypes.ownedTupleIsFree (.ref zo) >>= _) _ _ _
  refine wpAny_bind (free_dead hzo ht ?_)
  simp only [if_true]
  refine wpAny_bind (wpAny_rule ?_)
  refine wpAny_bind (wpAny_field hzo rfl (x := .ref TO) rfl ?_)
  refine wpAny_bind (wpAny_setField_rec hzo (by simp) fun g1 z1 p1 => ?_)
  replace z1 : ZMid g1 zo TI TO .ellipsis f := z1
  refine wpAny_bind ?_
  simp only [List.zipIdx_cons, List.zipIdx_nil, List.forIn_cons, List.forIn_nil]
  refine wpAny_bind (wpAny_bind (wpAny_onRaise ?_))
  show wpAny _ _ (Builtin.SmallTypes.nextOf (.ref i1) >>= _) _ _ _
  have w11 := w1.extBut p1.extBut D.i1z
  have wl11 := wl1.extBut p1.extBut D.l1z
  cases eu : us[m]? with
  | none =>
    refine wpAny_bind (wpAny_nextOf_list_end hh w11 wl11 eu fun g2 e p2 he => ?_)
    obtain ⟨oe, q1, q2⟩ := he
    have z2 : ZMid g2 zo TI TO .ellipsis f := p2 _ _ D.i1z.symm z1
    have ne : e ≠ zo := fun q => by
      subst q
      unfold ZMid at z2
      rw [z2] at q1
      cases q1
      simp at q2
    refine wpAny_setField_rec z2 (by simp) fun g3 _ p3 => hE g3 e (fun c o n1 _ n3 _ q => p3.extBut _ _ n1 (p2 _ _ n3 (p1.extBut _ _ n1 q))) ⟨oe, p3.extBut _ _ ne q1, q2⟩
  | some u =>
    have ev : vs[n]? = none := hend.elim (fun q => by rw [eu] at q; cases q) id
    refine wpAny_bind (wpAny_nextOf_list_item w11 wl11 eu fun g2 j2 p2 => wpAny_pure ?_)
    have o2 : IsPair g2 TO a b := p2.extBut _ _ D.TOi1 (p1.extBut _ _ D.TOz hO)
    refine wpAny_bind (wpAny_seqItems o2 rfl ?_)
    refine wpAny_bind (wpAny_updateSeq_pair o2 fun g3 o3 p3 => ?_)
    refine wpAny_bind (wpAny_letGo (wpAny_pure ?_))
    refine wpAny_bind (wpAny_bind (wpAny_onRaise ?_))
    show wpAny _ _ (Builtin.SmallTypes.nextOf (.ref i2) >>= _) _ _ _
    have w23 := ((w2.extBut p1.extBut D.i2z).extBut p2.extBut D.i12.symm).extBut p3.extBut D.TOi2.symm
    have wl23 := ((wl2.extBut p1.extBut D.l2z).extBut p2.extBut D.l2i1).extBut p3.extBut D.l2TO
    refine wpAny_bind (wpAny_nextOf_list_end hh w23 wl23 ev fun g4 e p4 he => ?_)
    obtain ⟨oe, q1, q2⟩ := he
    have z4 : ZMid g4 zo TI TO .ellipsis f := p4 _ _ D.i2z.symm (p3.extBut _ _ D.TOz.symm (p2.extBut _ _ D.i1z.symm z1))
    have ne : e ≠ zo := fun q => by
      subst q
      unfold ZMid at z4
      rw [z4] at q1
      cases q1
      simp at q2
    refine wpAny_setField_rec z4 (by simp) fun g5 _ p5 => hE g5 e (fun c o n1 n2 n3 n4 q => p5.extBut _ _ n1 (p4 _ _ n4 (p3.extBut _ _ n2 (p2.extBut _ _ n3 (p1.extBut _ _ n1 q))))) ⟨oe, p5.extBut _ _ ne q1, q2⟩
theorem dead_pyNext {zo TI TO T i1 i2 l1 l2 : Addr} {f : Bool} {m n : Nat} {us vs : Array Value} {u v a b : Value} {Q : Option Value → Shared → Prop} (D : ZipApart zo TI TO i1 i2 l1 l2)
    (hzo : IsZipHeld s.heap zo TI TO T f) (ht : s.heap.get? T = none) (hI : IsPair s.heap TI (.ref i1) (.ref i2)) (hO : IsPair s.heap TO a b)
    (w1 : s.heap.IsListIter i1 l1 m) (w2 : s.heap.IsListIter i2 l2 n) (wl1 : s.heap.IsList l1 us) (wl2 : s.heap.IsList l2 vs) (eu : us[m]? = some u) (ev : vs[n]? = some v)
    (hQ : ∀ h', IsZip h' zo TI TO (rawInt s.heap.objs.size) → IsPair h' TO u v → h'.IsListIter i1 l1 (m + 1) → h'.IsListIter i2 l2 (n + 1) → IsPair h' s.heap.objs.size u v → h'.objs.size = s.heap.objs.size + 1 →
      (∀ c o, c ≠ zo → c ≠ TO → c ≠ i1 → c ≠ i2 → s.heap.get? c = some o → h'.get? c = some o) → Q (some (.ref s.heap.objs.size)) { s with heap := h' }) : wpAny (model prog w) A (pyNext (.ref zo)) Q E s := by
  have ty : s.TypeIs (.ref zo) "zip" := ⟨_, hzo, rfl⟩
  unfold pyNext
  refine wpAny_bind (wpAny_attempt (wpAny_callSpecial?_slot (name := Str.ofString "__next__") ty F.slot_zip_next (wpAny_call_entry F.slot_zip_next ty F.entry_zip_next ?_ (F.args_zip_next_1 _))))
  exact dead_next D hzo ht hI hO w1 w2 wl1 wl2 eu ev fun h' a1 a2 a3 a4 a5 a6 a7 => wpAny_pure (hQ h' a1 a2 a3 a4 a5 a6 a7)
theorem dead_pyStop {zo TI TO T i1 i2 l1 l2 : Addr} {f : Bool} {m n : Nat} {us vs : Array Value} {a b : Value} {Q : Option Value → Shared → Prop} (hh : A.handled = none) (D : ZipApart zo TI TO i1 i2 l1 l2)
    (hzo : IsZipHeld s.heap zo TI TO T f) (ht : s.heap.get? T = none) (hI : IsPair s.heap TI (.ref i1) (.ref i2)) (hO : IsPair s.heap TO a b)
    (w1 : s.heap.IsListIter i1 l1 m) (w2 : s.heap.IsListIter i2 l2 n) (wl1 : s.heap.IsList l1 us) (wl2 : s.heap.IsList l2 vs) (hend : us[m]? = none ∨ vs[n]? = none)
    (hQ : ∀ h', (∀ c o, c ≠ zo → c ≠ TO → c ≠ i1 → c ≠ i2 → s.heap.get? c = some o → h'.get? c = some o) → Q none { s with heap := h' }) : wpAny (model prog w) A (pyNext (.ref zo)) Q E s := by
  have ty : s.TypeIs (.ref zo) "zip" := ⟨_, hzo, rfl⟩
  unfold pyNext
  refine wpAny_bind (wpAny_attempt (wpAny_callSpecial?_slot (name := Str.ofString "__next__") ty F.slot_zip_next (wpAny_call_entry F.slot_zip_next ty F.entry_zip_next ?_ (F.args_zip_next_1 _))))
  refine dead_stop hh D hzo ht hI hO w1 w2 wl1 wl2 hend fun h' e up he => ?_
  obtain ⟨o, q1, q2⟩ := he
  refine wpAny_bind (wpAny_isInstance (T := "StopIteration") (b := true) ⟨o, q1, q2⟩ isSubtype_stop ?_)
  exact wpAny_pure (hQ _ up)
end
theorem go_name {prog : Program} {w : World} {A : Around} {E : Value → Shared → Prop} {s : Shared} {x : Str} {pos : Pos} {it u : Value} {Q : Unit → Shared → Prop} (h : Q () s) : wpAny (model prog w) A (letOwnedTupleGo (.Name x pos) it u) Q E s := by
  unfold letOwnedTupleGo
  exact wpAny_pure h
theorem zip_self {prog : Program} {w : World} {A : Around} {E : Value → Shared → Prop} {s : Shared} {zo TI TO : Addr} {f0 : Value} {f : Bool} {Q : Value → Shared → Prop} (hz : ZMid s.heap zo TI TO f0 f) (h : Q (.ref zo) s) : wpAny (model prog w) A (pyIter (.ref zo)) Q E s := by
  have ty : s.TypeIs (.ref zo) "zip" := ⟨_, hz, rfl⟩
  refine wpAny_pyIter_slot ty F.slot_zip_iter (wpAny_call_entry F.slot_zip_iter ty F.entry_zip_iter ?_ (F.args_zip_iter_1 _))
  exact wpAny_pure ⟨_, rfl, "zip", _, ty, F.slot_zip_next.lookup, h⟩
theorem turn_zipN {P : Program} {w : World} {K : PySem.W.Frag} {nm : Str} {tpos : Pos} {a b zo TI TO i1 i2 : Addr} (D : ZipApart zo TI TO i1 i2 a b) :
    Turn P w K (.Name nm tpos) (Itz K a b) [zo, TI, TO, i1, i2] zo (fun i h => (IsZip h zo TI TO .none ∨ ∃ T f, IsZipHeld h zo TI TO T f) ∧ IsPair h TI (.ref i1) (.ref i2) ∧ (∃ x y, IsPair h TO x y) ∧ h.IsListIter i1 a i ∧ h.IsListIter i2 b i) where
  mem := by simp
  obj := by
    rintro i h ⟨hz, hI, ⟨x, y, hO⟩, ⟨o1, e1, _, d1⟩, ⟨o2, e2, _, d2⟩⟩ c hc
    simp only [List.mem_cons, List.not_mem_nil, or_false] at hc
    rcases hc with rfl | rfl | rfl | rfl | rfl
    · rcases hz with hz | ⟨T, f, hz⟩
      · exact ⟨_, hz, by simp⟩
      · exact ⟨_, hz, by simp⟩
    · exact ⟨_, hI, by simp⟩
    · exact ⟨_, hO, by simp⟩
    · exact ⟨o1, e1, fun v q => by rw [d1] at q; cases q⟩
    · exact ⟨o2, e2, fun v q => by rw [d2] at q; cases q⟩
  keep := by
    rintro i h h' ⟨hz, hI, ⟨x, y, hO⟩, w1, w2⟩ k
    refine ⟨?_, k _ (by simp) _ hI, ⟨x, y, k _ (by simp) _ hO⟩, w1.at fun o q => k _ (by simp) o q, w2.at fun o q => k _ (by simp) o q⟩
    rcases hz with hz | ⟨T, f, hz⟩
    · exact .inl (k _ (by simp) _ hz)
    · exact .inr ⟨T, f, k _ (by simp) _ hz⟩
  item := by
    intro X hP hw hK hc i pins s σ H E I hf st hg
    subst hP hw hK
    obtain ⟨hz, hI, ⟨x0, y0, hO⟩, w1, w2⟩ := st
    obtain ⟨xs, ys, x, y, hqx, hqy, hx, hy⟩ := hg
    obtain ⟨its, rv, p, _⟩ := I.list hqx
    obtain ⟨its2, rv2, p2, _⟩ := I.list hqy
    obtain ⟨u, hu, ru⟩ := rv.get hx
    obtain ⟨u2, hu2, ru2⟩ := rv2.get hy
    have lt : ∀ c ∈ [zo, TI, TO, i1, i2], c < s.heap.objs.size := by
      intro c hc
      simp only [List.mem_cons, List.not_mem_nil, or_false] at hc
      rcases hc with rfl | rfl | rfl | rfl | rfl
      · rcases hz with hz | ⟨T, f, hz⟩
        · exact Heap.lt_size hz
        · exact Heap.lt_size hz
      · exact Heap.lt_size hI
      · exact Heap.lt_size hO
      · obtain ⟨_, e1, _⟩ := w1; exact Heap.lt_size e1
      · obtain ⟨_, e2, _⟩ := w2; exact Heap.lt_size e2
    -- a step done: the state behind it
    have fin : ∀ h' : Heap, (∃ T f, IsZipHeld h' zo TI TO T f) → (∃ x y, IsPair h' TO x y) → h'.IsListIter i1 a (i + 1) → h'.IsListIter i2 b (i + 1) → IsPair h' s.heap.objs.size u u2 → (∀ c o, c ≠ zo → c ≠ TO → c ≠ i1 → c ≠ i2 → s.heap.get? c = some o → h'.get? c = some o) →
        ∃ v, some (Value.ref s.heap.objs.size) = some v ∧ wpAny (model X.prog X.w) X.A (letOwnedTupleGo (.Name nm tpos) (.ref zo) v) (fun _ s2 => ∃ x H', Inv X pins σ H' s2 ∧ RelV x v ∧ (Itz X.K a b).yld i H x H' ∧ ((IsZip s2.heap zo TI TO .none ∨ ∃ T f, IsZipHeld s2.heap zo TI TO T f) ∧ IsPair s2.heap TI (.ref i1) (.ref i2) ∧ (∃ x y, IsPair s2.heap TO x y) ∧ s2.heap.IsListIter i1 a (i + 1) ∧ s2.heap.IsListIter i2 b (i + 1)) ∧ ∀ b ∈ [zo, TI, TO, i1, i2], H' b = none) E { s with heap := h' } := by
      intro h' q1 q2 q3 q4 q5 q6
      refine ⟨_, rfl, go_name ?_⟩
      have new : ObjOk X.prog X.w (upd H s.heap.objs.size (.tup [x, y])) h' s.heap.objs.size (.tup [x, y]) :=
        ⟨by show 2 ≤ sizeLine; decide, [u, u2], .cons ru (.cons ru2 .nil), ⟨_, q5, rfl, _, rfl⟩⟩
      have I1 : Inv X pins σ (upd H s.heap.objs.size (.tup [x, y])) { s with heap := h' } :=
        I.turnedNew (t' := s.toks) (ch := [zo, TI, TO, i1, i2]) (fun c o hb q => q6 c o (fun z => hb (by simp [z])) (fun z => hb (by simp [z])) (fun z => hb (by simp [z])) (fun z => hb (by simp [z])) q) hf (Nat.le_refl _) new
      refine ⟨.ref s.heap.objs.size, _, I1, rfl, ⟨_, x, y, rfl, I.hok.fresh (Nat.le_refl _), rfl, fun l hl => by rw [I.list_inj hl hqx]; exact hx, fun l hl => by rw [I.list_inj hl hqy]; exact hy⟩, ⟨.inr q1, q6 _ _ D.TIz D.TITO D.TIi1 D.TIi2 hI, q2, q3, q4⟩, fun c hcm => ?_⟩
      rw [upd_ne (Nat.ne_of_lt (lt c hcm))]
      exact (hf c hcm).1
    have e1 : its.toArray[i]? = some u := by simpa using hu
    have e2 : its2.toArray[i]? = some u2 := by simpa using hu2
    rcases hz with hz | ⟨T, f, hz⟩
    · exact wpAny_pyNext_zip_item D hz hI hO w1 w2 p.isList p2.isList e1 e2 fun h' a1 a2 a3 a4 a5 _ a7 => fin h' ⟨_, false, a1⟩ ⟨_, _, a2⟩ a3 a4 a5 a7
    · cases ht : s.heap.get? T with
      | none => exact dead_pyNext D hz ht hI hO w1 w2 p.isList p2.isList e1 e2 fun h' a1 a2 a3 a4 a5 _ a7 => fin h' ⟨_, false, a1⟩ ⟨_, _, a2⟩ a3 a4 a5 a7
      | some oT => exact wpAny_pyNext_zip_item_held D hz ht hI w1 w2 p.isList p2.isList e1 e2 fun h' a1 a2 a3 a4 _ a6 => fin h' ⟨_, true, a1⟩ ⟨_, _, a6 _ _ D.TOz D.TOi1 D.TOi2 hO⟩ a2 a3 a4 fun c o n1 _ n3 n4 q => a6 c o n1 n3 n4 q
  done := by
    intro X hP hw hK hc i pins s σ H E I hf st hg
    subst hP hw hK
    obtain ⟨hz, hI, ⟨x0, y0, hO⟩, w1, w2⟩ := st
    obtain ⟨xs, ys, hqx, hqy, hend⟩ := hg
    obtain ⟨its, rv, p, _⟩ := I.list hqx
    obtain ⟨its2, rv2, p2, _⟩ := I.list hqy
    have l1 := rv.length
    have l2 := rv2.length
    have he : its.toArray[i]? = none ∨ its2.toArray[i]? = none := hend.elim (fun q => .inl (by simp; omega)) fun q => .inr (by simp; omega)
    have fin : ∀ h' : Heap, (∀ c o, c ≠ zo → c ≠ TO → c ≠ i1 → c ≠ i2 → s.heap.get? c = some o → h'.get? c = some o) → (none : Option Value) = none ∧ Inv X pins σ H { s with heap := h' } := fun h' q6 =>
      ⟨rfl, I.turnedL (t' := s.toks) (ch := [zo, TI, TO, i1, i2]) (fun c o hb q => q6 c o (fun z => hb (by simp [z])) (fun z => hb (by simp [z])) (fun z => hb (by simp [z])) (fun z => hb (by simp [z])) q) hf⟩
    have hd := I.ok.hd hc
    rcases hz with hz | ⟨T, f, hz⟩
    · exact wpAny_pyNext_zip_end hd D hz hI hO w1 w2 p.isList p2.isList he fin
    · cases ht : s.heap.get? T with
      | none => exact dead_pyStop hd D hz ht hI hO w1 w2 p.isList p2.isList he fin
      | some oT => exact wpAny_pyNext_zip_end_held hd D hz ht hI w1 w2 p.isList p2.isList he fun h' q => fin h' fun c o n1 _ n3 n4 e => q c o n1 n3 n4 e
  self := fun A i s Q E st h => by
    rcases st.1 with hz | ⟨T, f, hz⟩
    · exact wpAny_pyIter_zip hz h
    · exact zip_self hz h
theorem pi_zipN {X : Cx} {e e2 : Expr} {ta : TA} {p pos tpos : Pos} {nm : Str} (hg : Gl X "zip") (hm : X.mg "zip" = none) (ha : PA X [e, e2] ta)
    (hs : starEach [e, e2] X.env = (false, eval e X.env) :: starEach [e2] X.env := by rfl) (hpl : (backTo pos (starEach [e2] X.env)).any (·.1) = false := by rfl) :
    PI X (.Name nm tpos) (.Call (.Name "zip" p) [e, e2] [] pos) (iZip X.K ta) := by
  refine ⟨fun pins s σ H R I h => ?_⟩
  refine Call_ (ld_blt I hg hm PyProof.Rows.boot_zip (PyProof.Rows.callWith_type1 (thn (ha.run pos pins s σ H _ I h) fun us s1 ⟨vs, H1, I1, r1, q1⟩ => ?_) hs hpl))
  obtain ⟨a, b, xs, ys, rfl, hqx, hqy, q⟩ := q1
  cases r1 with
  | cons r rr =>
  cases rr with
  | cons r' rr =>
  cases rr
  cases r
  cases r'
  obtain ⟨its, rv, p1, _⟩ := I1.list hqx
  obtain ⟨its2, rv2, p2, _⟩ := I1.list hqy
  refine call_zip_2 p1.isList p2.isList fun h' hz hI hO w1 w2 hsz hk => zip_self (f := false) hz ?_
  have I2 : Inv X pins σ H1 { s1 with heap := h' } := I1.kept (t' := s1.toks) hk
  generalize hn : s1.heap.objs.size = n at hz hI hO w1 w2
  refine ⟨n + 4, [n + 4, n + 2, n + 3, n, n + 1], _, _, H1, rfl, I2, turn_zipN (PySem.W.ktu_apart n a b (hn ▸ p1.lt) (hn ▸ p2.lt)), ⟨.inl hz, hI, ⟨_, _, hO⟩, w1, w2⟩, fun c hcm => ?_, q⟩
  have hle : s1.heap.objs.size ≤ c := by
    rw [hn]
    simp only [List.mem_cons, List.not_mem_nil, or_false] at hcm
    rcases hcm with rfl | rfl | rfl | rfl | rfl <;> first | exact Nat.le_refl _ | exact Nat.le_add_right _ _
  exact I1.fpOk hle (I1.hok.fresh hle)
end L2

set_option Elab.async false
set_option linter.all false
set_option maxRecDepth 100000
set_option autoImplicit false
namespace L2
open PySem PySem.Spec
/-- a caught exception of the class C that is kept -/
def EXo (C a : Addr) : HO := .ext fun h => ∃ oe : Obj, h.get? a = some oe ∧ Zc (.ref C) none oe ∧ ∃ vs, oe.data = .fields vs
theorem exo_is {P : Program} {w : World} {H : Hp} {h : Heap} {C a : Addr} {oe : Obj} (e : h.get? a = some oe) (z : Zc (.ref C) none oe) (d : ∃ vs, oe.data = .fields vs) : ObjOk P w H h a (EXo C a) :=
  ⟨⟨oe, e, z, d⟩, ⟨oe, e⟩, fun _ _ ⟨o, q, r⟩ k => ⟨o, k o q, r⟩⟩
end L2
namespace DL
open PySem PySem.Spec PyProof.Rows L2

/-! ## data -/
inductive D where
  | non | bl (b : Bool) | int (i : Int) | str (x : Str)
  | lst (xs : List D) | tup (xs : List D) | scr (xs : List D)
  | hdl (k : Nat) | raw (v : V) | exc (C : Addr)
inductive Cell where
  | lst (xs : List D)
  | dK (kvs : List (Key × D))
  | dN (kvs : List (NK × D))
  | fK (o : Obj) (us : List (Key × V)) (kvs : List (Key × D))
  | ins (C : Addr) (fs : List (Nat × D))
mutual
def NK.d : NK → D
  | .int i => .int i
  | .str x => .str x
  | .tup ks => .tup (NK.ds ks)
def NK.ds : List NK → List D
  | [] => []
  | k :: ks => NK.d k :: NK.ds ks
end
/-- a dict whose keys are tuples of keys: each with the tuple that stands there -/
def ndO (w : World) (a : Addr) (kvs : List (NK × Addr × V)) : HO := .ext fun h => kvs.length ≤ sizeLine ∧ (a == sysModules) = false ∧ ∃ xs : List (NK × Addr × Value), Paired (fun (p : NK × Addr × V) (q : NK × Addr × Value) => p.1 = q.1 ∧ p.2.1 = q.2.1 ∧ RelV p.2.2 q.2.2) kvs xs ∧
  ∃ o es ep, h.get? a = some o ∧ o.ExactDict ∧ o.data = .dict es ep ∧ es.toList = xs.map (fun x => (⟨nkHash w x.1, .ref x.2.1, x.2.2⟩ : DictEntry)) ∧ (xs.map (·.1)).Nodup
abbrev Sto := List Cell
abbrev DEnv := List (Option D)
abbrev DQ := D → Sto → Prop
abbrev XQ := Addr → Sto → Prop
/-- what is fixed: the written part, each class's attributes -/
structure Gm where
  K : PySem.W.Frag
  Γ : Addr → List Str
  w : World
structure Wd where
  m : List Addr
  ex : List Addr

/-! ## how data stand in the heap -/
def TupAt (K : PySem.W.Frag) (W : Wd) (H : Hp) (a : Addr) (vs : List V) : Prop :=
  (a ∉ W.m ∧ a ∉ W.ex ∧ Rd H a (.tup vs)) ∨ SqT K (fun _ => none) a vs
def ScrAt (K : PySem.W.Frag) (W : Wd) (H : Hp) (a : Addr) (vs : List V) : Prop :=
  (a ∉ W.m ∧ a ∉ W.ex ∧ Rd H a (.lst vs)) ∨ SqL K (fun _ => none) a vs
mutual
def Rp (K : PySem.W.Frag) (W : Wd) (H : Hp) : D → V → Prop
  | .non, v => v = .non
  | .bl b, v => v = .bl b
  | .int i, v => v = .int i
  | .str x, v => v = .str x
  | .lst ds, v => ∃ a vs, v = .ref a ∧ a ∉ W.m ∧ a ∉ W.ex ∧ H a = some (.lst vs) ∧ RpL K W H ds vs
  | .tup ds, v => ∃ a vs, v = .ref a ∧ TupAt K W H a vs ∧ RpL K W H ds vs
  | .scr ds, v => ∃ a vs, v = .ref a ∧ ScrAt K W H a vs ∧ RpL K W H ds vs
  | .hdl k, v => ∃ a, W.m[k]? = some a ∧ v = .ref a
  | .raw u, v => v = u
  | .exc C, v => ∃ a, v = .ref a ∧ a ∉ W.m ∧ a ∉ W.ex ∧ H a = some (L2.EXo C a)
def RpL (K : PySem.W.Frag) (W : Wd) (H : Hp) : List D → List V → Prop
  | [], vs => vs = []
  | d :: ds, vs => ∃ v r, vs = v :: r ∧ Rp K W H d v ∧ RpL K W H ds r
end
/-- later: the world has grown, what was no handle's is as it was -/
structure Le (W : Wd) (H : Hp) (W' : Wd) (H' : Hp) : Prop where
  ex : W'.ex = W.ex
  m : ∃ t, W'.m = W.m ++ t
  keep : ∀ a o, a ∉ W.m → H a = some o → a ∉ W'.m ∧ H' a = some o
theorem Le.refl {W : Wd} {H : Hp} : Le W H W H := ⟨rfl, ⟨[], by simp⟩, fun _ _ h e => ⟨h, e⟩⟩
theorem Le.trans {W W1 W2 : Wd} {H H1 H2 : Hp} (a : Le W H W1 H1) (b : Le W1 H1 W2 H2) : Le W H W2 H2 := by
  obtain ⟨t, e⟩ := a.m
  obtain ⟨u, e'⟩ := b.m
  refine ⟨b.ex.trans a.ex, ⟨t ++ u, by rw [e', e, List.append_assoc]⟩, fun x o h q => ?_⟩
  obtain ⟨h1, q1⟩ := a.keep x o h q
  exact b.keep x o h1 q1
/-- what data ask: the handles' places stay, what is neither a handle's nor hidden is as it was -/
structure LeR (W : Wd) (H : Hp) (W' : Wd) (H' : Hp) : Prop where
  m : ∃ t, W'.m = W.m ++ t
  keep : ∀ a o, a ∉ W.m → a ∉ W.ex → H a = some o → a ∉ W'.m ∧ a ∉ W'.ex ∧ H' a = some o
theorem Le.r {W W' : Wd} {H H' : Hp} (l : Le W H W' H') : LeR W H W' H' :=
  ⟨l.m, fun a o h1 h2 e => let q := l.keep a o h1 e; ⟨q.1, by rw [l.ex]; exact h2, q.2⟩⟩
theorem LeR.trans {W W1 W2 : Wd} {H H1 H2 : Hp} (a : LeR W H W1 H1) (b : LeR W1 H1 W2 H2) : LeR W H W2 H2 := by
  obtain ⟨t, e⟩ := a.m
  obtain ⟨u, e'⟩ := b.m
  refine ⟨⟨t ++ u, by rw [e', e, List.append_assoc]⟩, fun x o h1 h2 q => ?_⟩
  obtain ⟨h3, h4, q1⟩ := a.keep x o h1 h2 q
  exact b.keep x o h3 h4 q1
theorem Rd.leR {W W' : Wd} {H H' : Hp} {a : Addr} {u : HO} (l : LeR W H W' H') (h : a ∉ W.m) (h' : a ∉ W.ex) (r : Rd H a u) : a ∉ W'.m ∧ a ∉ W'.ex ∧ Rd H' a u := by
  rcases r with r | ⟨o, r⟩
  · obtain ⟨h1, h2, q⟩ := l.keep a _ h h' r
    exact ⟨h1, h2, .inl q⟩
  · obtain ⟨h1, h2, q⟩ := l.keep a _ h h' r
    exact ⟨h1, h2, .inr ⟨o, q⟩⟩
theorem TupAt.leR {K : PySem.W.Frag} {W W' : Wd} {H H' : Hp} {a : Addr} {vs : List V} (l : LeR W H W' H') (h : TupAt K W H a vs) : TupAt K W' H' a vs := by
  rcases h with ⟨h1, h2, h3⟩ | h
  · exact .inl (Rd.leR l h1 h2 h3)
  · exact .inr h
theorem ScrAt.leR {K : PySem.W.Frag} {W W' : Wd} {H H' : Hp} {a : Addr} {vs : List V} (l : LeR W H W' H') (h : ScrAt K W H a vs) : ScrAt K W' H' a vs := by
  rcases h with ⟨h1, h2, h3⟩ | h
  · exact .inl (Rd.leR l h1 h2 h3)
  · exact .inr h
theorem TupAt.le {K : PySem.W.Frag} {W W' : Wd} {H H' : Hp} {a : Addr} {vs : List V} (l : Le W H W' H') (h : TupAt K W H a vs) : TupAt K W' H' a vs := h.leR l.r
theorem ScrAt.le {K : PySem.W.Frag} {W W' : Wd} {H H' : Hp} {a : Addr} {vs : List V} (l : Le W H W' H') (h : ScrAt K W H a vs) : ScrAt K W' H' a vs := h.leR l.r
theorem TupAt.sq {K : PySem.W.Frag} {W : Wd} {H : Hp} {a : Addr} {vs : List V} (h : TupAt K W H a vs) : SqT K H a vs := by
  rcases h with ⟨_, _, h⟩ | h
  · exact .inl h
  · rcases h with (h | ⟨_, h⟩) | h
    · cases h
    · cases h
    · exact .inr h
theorem ScrAt.sq {K : PySem.W.Frag} {W : Wd} {H : Hp} {a : Addr} {vs : List V} (h : ScrAt K W H a vs) : SqL K H a vs := by
  rcases h with ⟨_, _, h⟩ | h
  · exact .inl h
  · rcases h with (h | ⟨_, h⟩) | h
    · cases h
    · cases h
    · exact .inr h
section
variable {K : PySem.W.Frag} {W W' : Wd} {H H' : Hp}
mutual
theorem Rp.leR (l : LeR W H W' H') : ∀ {d : D} {v : V}, Rp K W H d v → Rp K W' H' d v
  | .non, _, h => h
  | .bl _, _, h => h
  | .int _, _, h => h
  | .str _, _, h => h
  | .lst ds, v, h => by
    simp only [Rp] at h ⊢
    obtain ⟨a, vs, e, h1, h2, h3, h4⟩ := h
    obtain ⟨q1, q2, q3⟩ := l.keep a _ h1 h2 h3
    exact ⟨a, vs, e, q1, q2, q3, RpL.leR l h4⟩
  | .tup ds, v, h => by
    simp only [Rp] at h ⊢
    obtain ⟨a, vs, e, h1, h4⟩ := h
    exact ⟨a, vs, e, h1.leR l, RpL.leR l h4⟩
  | .scr ds, v, h => by
    simp only [Rp] at h ⊢
    obtain ⟨a, vs, e, h1, h4⟩ := h
    exact ⟨a, vs, e, h1.leR l, RpL.leR l h4⟩
  | .hdl k, v, h => by
    simp only [Rp] at h ⊢
    obtain ⟨a, h1, e⟩ := h
    obtain ⟨t, q⟩ := l.m
    refine ⟨a, ?_, e⟩
    rw [q, List.getElem?_append_left]
    · exact h1
    · exact (List.getElem?_eq_some_iff.mp h1).1
  | .raw _, _, h => h
  | .exc _, v, h => by
    simp only [Rp] at h ⊢
    obtain ⟨a, e, h1, h2, h3⟩ := h
    obtain ⟨q1, q2, q3⟩ := l.keep a _ h1 h2 h3
    exact ⟨a, e, q1, q2, q3⟩
theorem RpL.leR (l : LeR W H W' H') : ∀ {ds : List D} {vs : List V}, RpL K W H ds vs → RpL K W' H' ds vs
  | [], _, h => h
  | d :: ds, vs, h => by
    simp only [RpL] at h ⊢
    obtain ⟨v, r, e, h1, h2⟩ := h
    exact ⟨v, r, e, Rp.leR l h1, RpL.leR l h2⟩
end
theorem Rp.le (l : Le W H W' H') {d : D} {v : V} (h : Rp K W H d v) : Rp K W' H' d v := h.leR l.r
theorem RpL.le (l : Le W H W' H') {ds : List D} {vs : List V} (h : RpL K W H ds vs) : RpL K W' H' ds vs := h.leR l.r
end
section
variable {K : PySem.W.Frag} {W : Wd} {H : Hp}
theorem RpL.length : ∀ {ds : List D} {vs : List V}, RpL K W H ds vs → vs.length = ds.length
  | [], _, h => by simp only [RpL] at h; subst h; rfl
  | d :: ds, vs, h => by
    simp only [RpL] at h
    obtain ⟨v, r, e, h1, h2⟩ := h
    subst e
    simp [RpL.length h2]
theorem RpL.get : ∀ {ds : List D} {vs : List V} {i : Nat} {d : D}, RpL K W H ds vs → ds[i]? = some d → ∃ v, vs[i]? = some v ∧ Rp K W H d v
  | [], _, _, _, _, e => by simp at e
  | d :: ds, vs, 0, _, h, e => by
    simp only [RpL] at h
    obtain ⟨v, r, rfl, h1, h2⟩ := h
    simp at e; subst e
    exact ⟨v, by simp, h1⟩
  | d :: ds, vs, i + 1, _, h, e => by
    simp only [RpL] at h
    obtain ⟨v, r, rfl, h1, h2⟩ := h
    obtain ⟨w, q1, q2⟩ := RpL.get (i := i) h2 (by simpa using e)
    exact ⟨w, by simpa using q1, q2⟩
theorem RpL.append : ∀ {ds es : List D} {vs us : List V}, RpL K W H ds vs → RpL K W H es us → RpL K W H (ds ++ es) (vs ++ us)
  | [], _, _, _, h, h' => by simp only [RpL] at h; subst h; exact h'
  | d :: ds, es, vs, us, h, h' => by
    simp only [RpL] at h
    obtain ⟨v, r, rfl, h1, h2⟩ := h
    show RpL K W H (d :: (ds ++ es)) (v :: (r ++ us))
    simp only [RpL]
    exact ⟨v, _, rfl, h1, RpL.append h2 h'⟩
theorem RpL.one {d : D} {v : V} (h : Rp K W H d v) : RpL K W H [d] [v] := by
  simp only [RpL]; exact ⟨v, [], rfl, h, rfl⟩
theorem RpL.nil : RpL K W H [] [] := by simp only [RpL]
theorem RpL.cons {d : D} {v : V} {ds : List D} {vs : List V} (h : Rp K W H d v) (h' : RpL K W H ds vs) : RpL K W H (d :: ds) (v :: vs) := by
  simp only [RpL]; exact ⟨v, vs, rfl, h, h'⟩
theorem RpL.take : ∀ {ds : List D} {vs : List V} (n : Nat), RpL K W H ds vs → RpL K W H (ds.take n) (vs.take n)
  | _, _, 0, _ => by simp [RpL]
  | [], vs, n + 1, h => by simp only [RpL] at h; subst h; simp [RpL]
  | d :: ds, vs, n + 1, h => by
    simp only [RpL] at h
    obtain ⟨v, r, rfl, h1, h2⟩ := h
    exact RpL.cons h1 (RpL.take n h2)
theorem RpL.drop : ∀ {ds : List D} {vs : List V} (n : Nat), RpL K W H ds vs → RpL K W H (ds.drop n) (vs.drop n)
  | _, _, 0, h => h
  | [], vs, n + 1, h => by simp only [RpL] at h; subst h; simp [RpL]
  | d :: ds, vs, n + 1, h => by
    simp only [RpL] at h
    obtain ⟨v, r, rfl, h1, h2⟩ := h
    exact RpL.drop n h2
theorem RpL.set {d : D} {v : V} (hd : Rp K W H d v) : ∀ {ds : List D} {vs : List V} (n : Nat), RpL K W H ds vs → RpL K W H (ds.set n d) (vs.set n v)
  | [], vs, n, h => by simp only [RpL] at h; subst h; simp [RpL]
  | e :: ds, vs, 0, h => by
    simp only [RpL] at h
    obtain ⟨v', r, rfl, h1, h2⟩ := h
    exact RpL.cons hd h2
  | e :: ds, vs, n + 1, h => by
    simp only [RpL] at h
    obtain ⟨v', r, rfl, h1, h2⟩ := h
    exact RpL.cons h1 (RpL.set hd n h2)
theorem RpL.eraseIdx : ∀ {ds : List D} {vs : List V} (n : Nat), RpL K W H ds vs → RpL K W H (ds.eraseIdx n) (vs.eraseIdx n)
  | [], vs, n, h => by simp only [RpL] at h; subst h; simp [RpL]
  | e :: ds, vs, 0, h => by
    simp only [RpL] at h
    obtain ⟨v', r, rfl, h1, h2⟩ := h
    exact h2
  | e :: ds, vs, n + 1, h => by
    simp only [RpL] at h
    obtain ⟨v', r, rfl, h1, h2⟩ := h
    exact RpL.cons h1 (RpL.eraseIdx n h2)
theorem RpL.reverse {ds : List D} {vs : List V} (h : RpL K W H ds vs) : RpL K W H ds.reverse vs.reverse := by
  induction ds generalizing vs with
  | nil => simp only [RpL] at h; subst h; simp [RpL]
  | cons d ds ih =>
    simp only [RpL] at h
    obtain ⟨v, r, rfl, h1, h2⟩ := h
    rw [List.reverse_cons, List.reverse_cons]
    exact (ih h2).append (.one h1)
theorem RpL.ints : ∀ {ns : List Int} {vs : List V}, RpL K W H (ns.map D.int) vs → vs = ns.map V.int
  | [], _, h => by simpa only [List.map, RpL] using h
  | n :: ns, vs, h => by
    simp only [List.map, RpL, Rp] at h
    obtain ⟨v, r, rfl, rfl, h2⟩ := h
    rw [RpL.ints h2]; rfl
theorem RpL.of_ints : ∀ (ns : List Int), RpL K W H (ns.map D.int) (ns.map V.int)
  | [] => by simp [RpL]
  | n :: ns => RpL.cons rfl (RpL.of_ints ns)
end

/-! ## the store -/
def RpF (K : PySem.W.Frag) (W : Wd) (H : Hp) (N : List Str) : List (Nat × D) → List (Str × V) → Prop
  | [], vs => vs = []
  | (n, d) :: fs, vs => ∃ x v r, vs = (x, v) :: r ∧ N[n]? = some x ∧ Rp K W H d v ∧ RpF K W H N fs r
def RpK (K : PySem.W.Frag) (W : Wd) (H : Hp) : List (Key × D) → List (Key × V) → Prop
  | [], vs => vs = []
  | (k, d) :: fs, vs => ∃ v r, vs = (k, v) :: r ∧ Rp K W H d v ∧ RpK K W H fs r
/-- the pairs of a dict with tuple keys -/
def RpN (K : PySem.W.Frag) (W : Wd) (H : Hp) : List (NK × D) → List (NK × Addr × V) → Prop
  | [], vs => vs = []
  | (k, d) :: fs, vs => ∃ b v r, vs = (k, b, v) :: r ∧ Rp K W H k.d (.ref b) ∧ k.dep ≤ 8 ∧ Rp K W H d v ∧ RpN K W H fs r
def CellRp (G : Gm) (W : Wd) (H : Hp) (a : Addr) : Cell → Prop
  | .lst ds => ∃ vs, H a = some (.lst vs) ∧ RpL G.K W H ds vs
  | .dK kvs => ∃ vs, H a = some (.dK vs) ∧ RpK G.K W H kvs vs
  | .dN kvs => ∃ vs, H a = some (ndO G.w a vs) ∧ RpN G.K W H kvs vs
  | .fK o us kvs => H a = some (.frz o (.dK us)) ∧ RpK G.K W H kvs us
  | .ins C fs => ∃ dx vs, H a = some (.ins C dx vs) ∧ RpF G.K W H (G.Γ C) fs vs
structure Rel (G : Gm) (W : Wd) (H : Hp) (st : Sto) : Prop where
  nd : W.m.Nodup
  len : W.m.length = st.length
  out : ∀ a ∈ W.m, a ∉ W.ex
  exs : ∀ a ∈ W.ex, ∃ o, H a = some o
  cell : ∀ (k : Nat) (c : Cell), st[k]? = some c → ∃ a, W.m[k]? = some a ∧ CellRp G W H a c
theorem RpF.leR {K : PySem.W.Frag} {W W' : Wd} {H H' : Hp} {N : List Str} (l : LeR W H W' H') : ∀ {fs : List (Nat × D)} {vs : List (Str × V)}, RpF K W H N fs vs → RpF K W' H' N fs vs
  | [], _, h => h
  | (n, d) :: fs, vs, h => by
    obtain ⟨x, v, r, e, h1, h2, h3⟩ := h
    exact ⟨x, v, r, e, h1, h2.leR l, h3.leR l⟩
theorem RpK.leR {K : PySem.W.Frag} {W W' : Wd} {H H' : Hp} (l : LeR W H W' H') : ∀ {fs : List (Key × D)} {vs : List (Key × V)}, RpK K W H fs vs → RpK K W' H' fs vs
  | [], _, h => h
  | (n, d) :: fs, vs, h => by
    obtain ⟨v, r, e, h2, h3⟩ := h
    exact ⟨v, r, e, h2.leR l, h3.leR l⟩
theorem RpN.leR {K : PySem.W.Frag} {W W' : Wd} {H H' : Hp} (l : LeR W H W' H') : ∀ {fs : List (NK × D)} {vs : List (NK × Addr × V)}, RpN K W H fs vs → RpN K W' H' fs vs
  | [], _, h => h
  | (n, d) :: fs, vs, h => by
    obtain ⟨b, v, r, e, h1, h0, h2, h3⟩ := h
    exact ⟨b, v, r, e, h1.leR l, h0, h2.leR l, h3.leR l⟩
/-- a cell's rest: its own object kept, later -/
theorem CellRp.leR {G : Gm} {W W' : Wd} {H H' : Hp} {a : Addr} {c : Cell} (l : LeR W H W' H') (e : H' a = H a) (h : CellRp G W H a c) : CellRp G W' H' a c := by
  cases c with
  | lst ds => obtain ⟨vs, h1, h2⟩ := h; exact ⟨vs, e.trans h1, h2.leR l⟩
  | dK ds => obtain ⟨vs, h1, h2⟩ := h; exact ⟨vs, e.trans h1, h2.leR l⟩
  | dN ds => obtain ⟨vs, h1, h2⟩ := h; exact ⟨vs, e.trans h1, h2.leR l⟩
  | fK _ _ _ => obtain ⟨h1, h2⟩ := h; exact ⟨e.trans h1, h2.leR l⟩
  | ins C fs => obtain ⟨dx, vs, h1, h2⟩ := h; exact ⟨dx, vs, e.trans h1, h2.leR l⟩
theorem RpF.le {K : PySem.W.Frag} {W W' : Wd} {H H' : Hp} {N : List Str} (l : Le W H W' H') {fs : List (Nat × D)} {vs : List (Str × V)} (h : RpF K W H N fs vs) : RpF K W' H' N fs vs := h.leR l.r
theorem RpK.le {K : PySem.W.Frag} {W W' : Wd} {H H' : Hp} (l : Le W H W' H') {fs : List (Key × D)} {vs : List (Key × V)} (h : RpK K W H fs vs) : RpK K W' H' fs vs := h.leR l.r
theorem RpN.le {K : PySem.W.Frag} {W W' : Wd} {H H' : Hp} (l : Le W H W' H') {fs : List (NK × D)} {vs : List (NK × Addr × V)} (h : RpN K W H fs vs) : RpN K W' H' fs vs := h.leR l.r
theorem CellRp.le {G : Gm} {W W' : Wd} {H H' : Hp} {a : Addr} {c : Cell} (l : Le W H W' H') (e : H' a = H a) (h : CellRp G W H a c) : CellRp G W' H' a c := h.leR l.r e
theorem CellRp.some {G : Gm} {W : Wd} {H : Hp} {a : Addr} {c : Cell} (h : CellRp G W H a c) : ∃ o, H a = some o ∧ True := by
  cases c with
  | lst ds => obtain ⟨vs, h1, h2⟩ := h; exact ⟨_, h1, trivial⟩
  | dK ds => obtain ⟨vs, h1, h2⟩ := h; exact ⟨_, h1, trivial⟩
  | dN ds => obtain ⟨vs, h1, h2⟩ := h; exact ⟨_, h1, trivial⟩
  | fK _ _ _ => obtain ⟨h1, h2⟩ := h; exact ⟨_, h1, trivial⟩
  | ins C fs => obtain ⟨dx, vs, h1, h2⟩ := h; exact ⟨_, h1, trivial⟩
section
variable {G : Gm} {W : Wd} {H : Hp} {st : Sto}
theorem get_inj {l : List Addr} (h : l.Nodup) {i j : Nat} {a : Addr} (e : l[i]? = some a) (e' : l[j]? = some a) : i = j := by
  obtain ⟨h1, e1⟩ := List.getElem?_eq_some_iff.mp e
  obtain ⟨h2, e2⟩ := List.getElem?_eq_some_iff.mp e'
  exact (List.getElem_inj h).mp (e1.trans e2.symm)
theorem Le.write {a : Addr} {o : HO} (h : a ∈ W.m) : Le W H W (upd H a o) :=
  ⟨rfl, ⟨[], by simp⟩, fun b u hb e => ⟨hb, by rw [upd_ne (fun z => hb (by rw [z]; exact h))]; exact e⟩⟩
theorem Le.fresh {a : Addr} {o : HO} (h : H a = none) : Le W H W (upd H a o) :=
  ⟨rfl, ⟨[], by simp⟩, fun b u hb e => ⟨hb, by rw [upd_ne (ne_of_none e h)]; exact e⟩⟩
theorem Le.new {a : Addr} {o : HO} (h : H a = none) : Le W H ⟨W.m ++ [a], W.ex⟩ (upd H a o) :=
  ⟨rfl, ⟨[a], rfl⟩, fun b u hb e => ⟨by simp [hb, ne_of_none e h], by rw [upd_ne (ne_of_none e h)]; exact e⟩⟩
theorem Rel.mem (r : Rel G W H st) {k : Nat} {a : Addr} (e : W.m[k]? = some a) : a ∈ W.m := List.mem_of_getElem? e
theorem Rel.there (r : Rel G W H st) {a : Addr} (h : a ∈ W.m) : ∃ o, H a = some o ∧ True := by
  obtain ⟨k, hk, e⟩ := List.getElem_of_mem h
  have hk' : k < st.length := by rw [← r.len]; exact hk
  obtain ⟨b, e1, c⟩ := r.cell k st[k] (by simp [hk'])
  rw [List.getElem?_eq_getElem hk] at e1
  cases e1
  rw [e] at c
  exact c.some
/-- a cell written -/
theorem Rel.write {k : Nat} {a : Addr} {o : HO} {c : Cell} (r : Rel G W H st) (e : W.m[k]? = some a) (h : CellRp G W (upd H a o) a c) : Rel G W (upd H a o) (st.set k c) := by
  refine ⟨r.nd, by simpa using r.len, r.out, fun b hb => ?_, fun j c' q => ?_⟩
  · obtain ⟨u, e2⟩ := r.exs b hb
    refine ⟨u, ?_⟩
    rw [upd_ne]
    · exact e2
    · intro z; exact r.out a (r.mem e) (z ▸ hb)
  have l : Le W H W (upd H a o) := Le.write (r.mem e)
  by_cases hj : j = k
  · subst hj
    have : j < st.length := by rw [← r.len]; exact (List.getElem?_eq_some_iff.mp e).1
    rw [List.getElem?_set_self this] at q
    cases q
    exact ⟨a, e, h⟩
  · rw [List.getElem?_set_ne (Ne.symm hj)] at q
    obtain ⟨b, q1, q2⟩ := r.cell j c' q
    refine ⟨b, q1, q2.le l ?_⟩
    rw [upd_ne]
    intro z
    exact hj (get_inj r.nd (z ▸ q1) e)
/-- a new object that is no handle's -/
theorem Rel.fresh {a : Addr} {o : HO} (r : Rel G W H st) (h : H a = none) : Rel G W (upd H a o) st := by
  refine ⟨r.nd, r.len, r.out, fun b hb => ?_, fun j c q => ?_⟩
  · obtain ⟨u, e2⟩ := r.exs b hb
    exact ⟨u, by rw [upd_ne (ne_of_none e2 h)]; exact e2⟩
  obtain ⟨b, q1, q2⟩ := r.cell j c q
  refine ⟨b, q1, q2.le (Le.fresh h) ?_⟩
  obtain ⟨u, q3, _⟩ := q2.some
  rw [upd_ne (ne_of_none q3 h)]
theorem Rel.nex (r : Rel G W H st) {a : Addr} (h : H a = none) : a ∉ W.ex := fun z => by
  obtain ⟨o, e⟩ := r.exs a z
  rw [h] at e; cases e
theorem Rel.nin (r : Rel G W H st) {a : Addr} (h : H a = none) : a ∉ W.m := fun z => by
  obtain ⟨o, e, _⟩ := r.there z
  rw [h] at e; cases e
/-- a new handle -/
theorem Rel.new {a : Addr} {o : HO} {c : Cell} (r : Rel G W H st) (h : H a = none) (hc : CellRp G ⟨W.m ++ [a], W.ex⟩ (upd H a o) a c) : Rel G ⟨W.m ++ [a], W.ex⟩ (upd H a o) (st ++ [c]) := by
  have ha := r.nin h
  have hx := r.nex h
  refine ⟨?_, by simp [r.len], ?_, fun b hb => ?_, fun j c' q => ?_⟩
  · show (W.m ++ [a]).Nodup
    rw [List.nodup_append]
    refine ⟨r.nd, by simp, ?_⟩
    intro x h1 y h2 z
    have e2 : y = a := by simpa using h2
    exact ha (by rw [← e2, ← z]; exact h1)
  · intro x hx'
    rcases List.mem_append.mp hx' with z | z
    · exact r.out x z
    · have : x = a := by simpa using z
      subst this; exact hx
  · obtain ⟨u, e2⟩ := r.exs b hb
    exact ⟨u, by rw [upd_ne (ne_of_none e2 h)]; exact e2⟩
  · by_cases hj : j < st.length
    · rw [List.getElem?_append_left hj] at q
      obtain ⟨b, q1, q2⟩ := r.cell j c' q
      refine ⟨b, ?_, q2.le (Le.new h) ?_⟩
      · show (W.m ++ [a])[j]? = _
        rw [List.getElem?_append_left (by rw [r.len]; exact hj)]; exact q1
      · obtain ⟨u, q3, _⟩ := q2.some
        rw [upd_ne (ne_of_none q3 h)]
    · have hj' : st.length ≤ j := Nat.le_of_not_lt hj
      rw [List.getElem?_append_right hj'] at q
      have e0 : j - st.length = 0 := by
        by_cases z : j - st.length = 0
        · exact z
        · obtain ⟨n, hn⟩ := Nat.exists_eq_succ_of_ne_zero z
          rw [hn] at q; simp at q
      rw [e0] at q
      simp at q
      subst q
      refine ⟨a, ?_, hc⟩
      show (W.m ++ [a])[j]? = _
      rw [List.getElem?_append_right (by rw [r.len]; exact hj'), r.len, e0]
      rfl
end

/-- an object is hidden, is written while hidden, is shown again -/
theorem Rel.hide {G : Gm} {W : Wd} {H : Hp} {st : Sto} {a : Addr} {o : HO} (r : Rel G W H st) (h : H a = none) : Rel G ⟨W.m, a :: W.ex⟩ (upd H a o) st := by
  have l : LeR W H ⟨W.m, a :: W.ex⟩ (upd H a o) := ⟨⟨[], by simp⟩, fun b u h1 h2 e => ⟨h1, by simp [h2, ne_of_none e h], by rw [upd_ne (ne_of_none e h)]; exact e⟩⟩
  refine ⟨r.nd, r.len, fun b hb => ?_, fun b hb => ?_, fun j c q => ?_⟩
  · have h1 := r.nin h
    have h2 := r.out b hb
    simp only [List.mem_cons, not_or]
    exact ⟨fun z => h1 (z ▸ hb), h2⟩
  · rcases List.mem_cons.mp hb with rfl | hb
    · exact ⟨o, upd_same⟩
    · obtain ⟨u, e⟩ := r.exs b hb
      exact ⟨u, by rw [upd_ne (ne_of_none e h)]; exact e⟩
  · obtain ⟨b, q1, q2⟩ := r.cell j c q
    refine ⟨b, q1, q2.leR l ?_⟩
    obtain ⟨u, q3, _⟩ := q2.some
    rw [upd_ne (ne_of_none q3 h)]
theorem Rel.hidden {G : Gm} {W : Wd} {H : Hp} {st : Sto} {a : Addr} {o : HO} (r : Rel G W H st) (h : a ∈ W.ex) : Rel G W (upd H a o) st ∧ LeR W H W (upd H a o) := by
  have l : LeR W H W (upd H a o) := ⟨⟨[], by simp⟩, fun b u h1 h2 e => ⟨h1, h2, by rw [upd_ne (fun z => h2 (by rw [z]; exact h))]; exact e⟩⟩
  refine ⟨⟨r.nd, r.len, r.out, fun b hb => ?_, fun j c q => ?_⟩, l⟩
  · by_cases e : b = a
    · exact ⟨o, by rw [e, upd_same]⟩
    · obtain ⟨u, e2⟩ := r.exs b hb
      exact ⟨u, by rw [upd_ne e]; exact e2⟩
  · obtain ⟨b, q1, q2⟩ := r.cell j c q
    refine ⟨b, q1, q2.leR l ?_⟩
    rw [upd_ne]
    intro z
    exact r.out b (r.mem q1) (z ▸ h)
theorem LeR.show {a : Addr} {m ex : List Addr} {H : Hp} : LeR ⟨m, a :: ex⟩ H ⟨m, ex⟩ H := ⟨⟨[], by simp⟩, fun b u h1 h2 e => ⟨h1, fun z => h2 (List.mem_cons_of_mem _ z), e⟩⟩
theorem Rel.show {G : Gm} {a : Addr} {m ex : List Addr} {H : Hp} {st : Sto} (r : Rel G ⟨m, a :: ex⟩ H st) : Rel G ⟨m, ex⟩ H st :=
  ⟨r.nd, r.len, fun b hb z => r.out b hb (List.mem_cons_of_mem _ z), fun b hb => r.exs b (List.mem_cons_of_mem _ hb), fun j c q => by
    obtain ⟨b, q1, q2⟩ := r.cell j c q
    exact ⟨b, q1, q2.leR LeR.show rfl⟩⟩
/-- a hidden list is a handle from now on -/
theorem Rel.toH {G : Gm} {a : Addr} {m ex : List Addr} {H : Hp} {st : Sto} {ds : List D} {vs : List V} (r : Rel G ⟨m, a :: ex⟩ H st) (ha : a ∉ ex) (e : H a = some (.lst vs)) (h : RpL G.K ⟨m, a :: ex⟩ H ds vs) : Rel G ⟨m ++ [a], ex⟩ H (st ++ [.lst ds]) ∧ Rp G.K ⟨m ++ [a], ex⟩ H (.hdl st.length) (.ref a) := by
  have nm : a ∉ m := fun z => r.out a z (List.mem_cons_self)
  have l : LeR ⟨m, a :: ex⟩ H ⟨m ++ [a], ex⟩ H := ⟨⟨[a], rfl⟩, fun b u h1 h2 e => by
    simp only [List.mem_cons, not_or] at h2
    exact ⟨by simp only [List.mem_append, List.mem_singleton, not_or]; exact ⟨h1, h2.1⟩, h2.2, e⟩⟩
  have hlen : m.length = st.length := r.len
  refine ⟨⟨?_, by simp [hlen], fun b hb => ?_, fun b hb => r.exs b (List.mem_cons_of_mem _ hb), fun j c q => ?_⟩, ?_⟩
  · show (m ++ [a]).Nodup
    rw [List.nodup_append]
    refine ⟨r.nd, by simp, ?_⟩
    intro x h1 y h2 z
    have e2 : y = a := by simpa using h2
    exact nm (by rw [← e2, ← z]; exact h1)
  · rcases List.mem_append.mp hb with z | z
    · exact fun q => r.out b z (List.mem_cons_of_mem _ q)
    · have : b = a := by simpa using z
      subst this; exact ha
  · by_cases hj : j < st.length
    · rw [List.getElem?_append_left hj] at q
      obtain ⟨b, q1, q2⟩ := r.cell j c q
      refine ⟨b, ?_, q2.leR l rfl⟩
      show (m ++ [a])[j]? = _
      rw [List.getElem?_append_left (by rw [hlen]; exact hj)]; exact q1
    · have hj' : st.length ≤ j := Nat.le_of_not_lt hj
      rw [List.getElem?_append_right hj'] at q
      have e0 : j - st.length = 0 := by
        by_cases z : j - st.length = 0
        · exact z
        · obtain ⟨n, hn⟩ := Nat.exists_eq_succ_of_ne_zero z
          rw [hn] at q; simp at q
      rw [e0] at q
      simp at q
      subst q
      refine ⟨a, ?_, vs, e, h.leR l⟩
      show (m ++ [a])[j]? = _
      rw [List.getElem?_append_right (by rw [hlen]; exact hj'), hlen, e0]
      rfl
  · simp only [Rp]
    refine ⟨a, ?_, rfl⟩
    show (m ++ [a])[st.length]? = _
    rw [← hlen]; simp
/-- new data: a list, a tuple -/
theorem newL {G : Gm} {W : Wd} {H : Hp} {st : Sto} {a : Addr} {ds : List D} {vs : List V} (r : Rel G W H st) (h : H a = none) (q : RpL G.K W H ds vs) : Rp G.K W (upd H a (.lst vs)) (.lst ds) (.ref a) := by
  simp only [Rp]
  exact ⟨a, vs, rfl, r.nin h, r.nex h, upd_same, q.le (Le.fresh h)⟩
theorem newT {G : Gm} {W : Wd} {H : Hp} {st : Sto} {a : Addr} {ds : List D} {vs : List V} (r : Rel G W H st) (h : H a = none) (q : RpL G.K W H ds vs) : Rp G.K W (upd H a (.tup vs)) (.tup ds) (.ref a) := by
  simp only [Rp]
  exact ⟨a, vs, rfl, .inl ⟨r.nin h, r.nex h, .inl upd_same⟩, q.le (Le.fresh h)⟩
/-- a new handle, of a list, of a dict -/
theorem newHL {G : Gm} {W : Wd} {H : Hp} {st : Sto} {a : Addr} {ds : List D} {vs : List V} (r : Rel G W H st) (h : H a = none) (q : RpL G.K W H ds vs) :
    Rel G ⟨W.m ++ [a], W.ex⟩ (upd H a (.lst vs)) (st ++ [.lst ds]) ∧ Rp G.K ⟨W.m ++ [a], W.ex⟩ (upd H a (.lst vs)) (.hdl st.length) (.ref a) := by
  refine ⟨r.new h ⟨vs, upd_same, q.le (Le.new h)⟩, ?_⟩
  simp only [Rp]
  refine ⟨a, ?_, rfl⟩
  rw [← r.len]; simp
theorem newHK {G : Gm} {W : Wd} {H : Hp} {st : Sto} {a : Addr} {ds : List (Key × D)} {vs : List (Key × V)} (r : Rel G W H st) (h : H a = none) (q : RpK G.K W H ds vs) :
    Rel G ⟨W.m ++ [a], W.ex⟩ (upd H a (.dK vs)) (st ++ [.dK ds]) ∧ Rp G.K ⟨W.m ++ [a], W.ex⟩ (upd H a (.dK vs)) (.hdl st.length) (.ref a) := by
  refine ⟨r.new h ⟨vs, upd_same, q.le (Le.new h)⟩, ?_⟩
  simp only [Rp]
  refine ⟨a, ?_, rfl⟩
  rw [← r.len]; simp

theorem newHN {G : Gm} {W : Wd} {H : Hp} {st : Sto} {a : Addr} {ds : List (NK × D)} {vs : List (NK × Addr × V)} (r : Rel G W H st) (h : H a = none) (q : RpN G.K W H ds vs) :
    Rel G ⟨W.m ++ [a], W.ex⟩ (upd H a (ndO G.w a vs)) (st ++ [.dN ds]) ∧ Rp G.K ⟨W.m ++ [a], W.ex⟩ (upd H a (ndO G.w a vs)) (.hdl st.length) (.ref a) := by
  refine ⟨r.new h ⟨vs, upd_same, q.le (Le.new h)⟩, ?_⟩
  simp only [Rp]
  refine ⟨a, ?_, rfl⟩
  rw [← r.len]; simp

/-! ## names -/
structure RpE (K : PySem.W.Frag) (W : Wd) (H : Hp) (ρ : DEnv) (σ : L2.St) : Prop where
  len : ρ.length = σ.length
  get : ∀ (i : Nat) (d : D), ρ[i]? = some (some d) → ∃ v, σ[i]? = some (some v) ∧ Rp K W H d v
theorem RpE.le {K : PySem.W.Frag} {W W' : Wd} {H H' : Hp} {ρ : DEnv} {σ : L2.St} (r : RpE K W H ρ σ) (l : Le W H W' H') : RpE K W' H' ρ σ :=
  ⟨r.len, fun i d e => let ⟨v, h1, h2⟩ := r.get i d e; ⟨v, h1, h2.le l⟩⟩
theorem RpE.set {K : PySem.W.Frag} {W : Wd} {H : Hp} {ρ : DEnv} {σ : L2.St} (r : RpE K W H ρ σ) {d : D} {v : V} (h : Rp K W H d v) (i : Nat) : RpE K W H (ρ.set i (some d)) (σ.set i (some v)) := by
  refine ⟨by simp [r.len], fun j e q => ?_⟩
  by_cases hj : i = j
  · subst hj
    by_cases hi : i < ρ.length
    · rw [List.getElem?_set_self hi] at q
      cases q
      exact ⟨v, by rw [List.getElem?_set_self (by rw [← r.len]; exact hi)], h⟩
    · rw [List.getElem?_eq_none (by simp; omega)] at q
      cases q
  · rw [List.getElem?_set_ne hj] at q
    obtain ⟨w, h1, h2⟩ := r.get j e q
    exact ⟨w, by rw [List.getElem?_set_ne hj]; exact h1, h2⟩

/-! ## readings -/
abbrev ME := DEnv → Sto → DQ → XQ → Prop
abbrev MT := DEnv → Sto → (Bool → Sto → Prop) → XQ → Prop
abbrev MA := DEnv → Sto → (List D → Sto → Prop) → XQ → Prop
structure DEnds where
  nx : DEnv → Sto → Prop
  rt : DQ
  bk : DEnv → Sto → Prop := fun _ _ => False
  ct : DEnv → Sto → Prop := fun _ _ => False
  xq : XQ
abbrev MS := DEnds → DEnv → Sto → Prop
section
variable (G : Gm) (E : XK)
/-- what is wanted behind -/
structure OutE (W : Wd) (H : Hp) (R : DQ) (xq : XQ) (Q : VK) : Prop where
  rt : ∀ W' H' d v st', Le W H W' H' → Rel G W' H' st' → Rp G.K W' H' d v → R d st' → Q v H'
  xq : ∀ W' H' C st', Le W H W' H' → Rel G W' H' st' → xq C st' → E (.ref C) none H'
structure OutT (W : Wd) (H : Hp) (R : Bool → Sto → Prop) (xq : XQ) (Q : Bool → Hp → Prop) : Prop where
  rt : ∀ W' H' b st', Le W H W' H' → Rel G W' H' st' → R b st' → Q b H'
  xq : ∀ W' H' C st', Le W H W' H' → Rel G W' H' st' → xq C st' → E (.ref C) none H'
structure OutA (W : Wd) (H : Hp) (R : List D → Sto → Prop) (xq : XQ) (Q : List V → Hp → Prop) : Prop where
  rt : ∀ W' H' ds vs st', Le W H W' H' → Rel G W' H' st' → RpL G.K W' H' ds vs → R ds st' → Q vs H'
  xq : ∀ W' H' C st', Le W H W' H' → Rel G W' H' st' → xq C st' → E (.ref C) none H'
structure OutS (W : Wd) (H : Hp) (e : DEnds) (Dn : Ends) : Prop where
  nx : ∀ W' H' ρ' σ' st', Le W H W' H' → Rel G W' H' st' → RpE G.K W' H' ρ' σ' → e.nx ρ' st' → Dn.nx σ' H'
  bk : ∀ W' H' ρ' σ' st', Le W H W' H' → Rel G W' H' st' → RpE G.K W' H' ρ' σ' → e.bk ρ' st' → Dn.bk σ' H'
  ct : ∀ W' H' ρ' σ' st', Le W H W' H' → Rel G W' H' st' → RpE G.K W' H' ρ' σ' → e.ct ρ' st' → Dn.ct σ' H'
  rt : ∀ W' H' d v st', Le W H W' H' → Rel G W' H' st' → Rp G.K W' H' d v → e.rt d st' → Dn.rt v H'
  xq : ∀ W' H' C st', Le W H W' H' → Rel G W' H' st' → e.xq C st' → E (.ref C) none H'
def tD (w : ME) : TE := fun σ H Q => ∃ W ρ st R xq, Rel G W H st ∧ RpE G.K W H ρ σ ∧ w ρ st R xq ∧ OutE G E W H R xq Q
def tDT (w : MT) : TT := fun σ H Q => ∃ W ρ st R xq, Rel G W H st ∧ RpE G.K W H ρ σ ∧ w ρ st R xq ∧ OutT G E W H R xq Q
def tDA (w : MA) : TA := fun σ H Q => ∃ W ρ st R xq, Rel G W H st ∧ RpE G.K W H ρ σ ∧ w ρ st R xq ∧ OutA G E W H R xq Q
def tDS (w : MS) : TS := fun Dn σ H => ∃ W ρ st e, Rel G W H st ∧ RpE G.K W H ρ σ ∧ w e ρ st ∧ OutS G E W H e Dn
end
section
variable {G : Gm} {E : XK} {W W' : Wd} {H H' : Hp}
theorem OutE.le {R : DQ} {xq : XQ} {Q : VK} (o : OutE G E W H R xq Q) (l : Le W H W' H') : OutE G E W' H' R xq Q :=
  ⟨fun _ _ _ _ _ q => o.rt _ _ _ _ _ (l.trans q), fun _ _ _ _ q => o.xq _ _ _ _ (l.trans q)⟩
theorem OutT.le {R : Bool → Sto → Prop} {xq : XQ} {Q : Bool → Hp → Prop} (o : OutT G E W H R xq Q) (l : Le W H W' H') : OutT G E W' H' R xq Q :=
  ⟨fun _ _ _ _ q => o.rt _ _ _ _ (l.trans q), fun _ _ _ _ q => o.xq _ _ _ _ (l.trans q)⟩
theorem OutA.le {R : List D → Sto → Prop} {xq : XQ} {Q : List V → Hp → Prop} (o : OutA G E W H R xq Q) (l : Le W H W' H') : OutA G E W' H' R xq Q :=
  ⟨fun _ _ _ _ _ q => o.rt _ _ _ _ _ (l.trans q), fun _ _ _ _ q => o.xq _ _ _ _ (l.trans q)⟩
theorem OutS.le {e : DEnds} {Dn : Ends} (o : OutS G E W H e Dn) (l : Le W H W' H') : OutS G E W' H' e Dn :=
  ⟨fun _ _ _ _ _ q => o.nx _ _ _ _ _ (l.trans q), fun _ _ _ _ _ q => o.bk _ _ _ _ _ (l.trans q), fun _ _ _ _ _ q => o.ct _ _ _ _ _ (l.trans q), fun _ _ _ _ _ q => o.rt _ _ _ _ _ (l.trans q), fun _ _ _ _ q => o.xq _ _ _ _ (l.trans q)⟩
end
/-! ## the judgements -/
def PDE (G : Gm) (E : XK) (X : Cx) (e : Expr) (w : ME) : Prop := PE X e (tD G E w)
def PDT (G : Gm) (E : XK) (X : Cx) (e : Expr) (w : MT) : Prop := PT X e (tDT G E w)
def PDW (G : Gm) (E : XK) (X : Cx) (e : Expr) (w : MT) : Prop := PW X e (tDT G E w)
def PDA (G : Gm) (E : XK) (X : Cx) (es : List Expr) (w : MA) : Prop := PA X es (tDA G E w)
def PDS (G : Gm) (E : XK) (X : Cx) (s : Stmt) (w : MS) : Prop := PS X s (tDS G E w)
def PDSs (G : Gm) (E : XK) (X : Cx) (s : List Stmt) (w : MS) : Prop := PSs X s (tDS G E w)
theorem PE.weak {X : Cx} {e : Expr} {t t' : TE} (h : PE X e t) (hw : ∀ σ H Q, t' σ H Q → t σ H Q) : PE X e t' := ⟨fun pins s σ H Q I q => h.run pins s σ H Q I (hw _ _ _ q)⟩
theorem PT.weak {X : Cx} {e : Expr} {t t' : TT} (h : PT X e t) (hw : ∀ σ H Q, t' σ H Q → t σ H Q) : PT X e t' := ⟨fun pins s σ H Q I q => h.run pins s σ H Q I (hw _ _ _ q)⟩
theorem PW.weak {X : Cx} {e : Expr} {t t' : TT} (h : PW X e t) (hw : ∀ σ H Q, t' σ H Q → t σ H Q) : PW X e t' := ⟨fun wh pins s σ H Q I q => h.run wh pins s σ H Q I (hw _ _ _ q)⟩
theorem PA.weak {X : Cx} {e : List Expr} {t t' : TA} (h : PA X e t) (hw : ∀ σ H Q, t' σ H Q → t σ H Q) : PA X e t' := ⟨fun pos pins s σ H Q I q => h.run pos pins s σ H Q I (hw _ _ _ q)⟩
theorem PS.weak {X : Cx} {s : Stmt} {t t' : TS} (h : PS X s t) (hw : ∀ D σ H, t' D σ H → t D σ H) : PS X s t' := ⟨fun pins s σ H D I q => h.run pins s σ H D I (hw _ _ _ q)⟩
theorem PSs.weak {X : Cx} {s : List Stmt} {t t' : TS} (h : PSs X s t) (hw : ∀ D σ H, t' D σ H → t D σ H) : PSs X s t' := ⟨fun pins s σ H D I q => h.run pins s σ H D I (hw _ _ _ q)⟩
end DL

set_option Elab.async false
set_option linter.all false
set_option maxRecDepth 100000
set_option autoImplicit false
namespace DL
open PySem PySem.Spec PyProof.Rows L2

/-! ## what data are -/
/-- a handle of a list: as the list -/
def dr (st : Sto) (d : D) : D := match d with
  | .hdl k => match st[k]? with
    | some (.lst xs) => .lst xs
    | _ => .hdl k
  | d => d
def onI (d : D) (k : Int → Prop) : Prop := match d with | .int i => k i | _ => False
def onB (d : D) (k : Bool → Prop) : Prop := match d with | .bl b => k b | _ => False
def onS (d : D) (k : Str → Prop) : Prop := match d with | .str b => k b | _ => False
/-- the items of a list, of a tuple -/
def onL (st : Sto) (d : D) (k : List D → Prop) : Prop := match dr st d with | .lst xs => k xs | .scr xs => k xs | _ => False
def onQ (st : Sto) (d : D) (k : List D → Prop) : Prop := match dr st d with | .lst xs => k xs | .scr xs => k xs | .tup xs => k xs | _ => False
section
variable {G : Gm} {W : Wd} {H : Hp} {st : Sto} {d : D} {v : V}
theorem dr_int {i : Int} (e : dr st d = .int i) : d = .int i := by
  unfold dr at e; split at e
  · split at e <;> cases e
  · exact e
theorem dr_str {i : Str} (e : dr st d = .str i) : d = .str i := by
  unfold dr at e; split at e
  · split at e <;> cases e
  · exact e
theorem dr_tup {i : List D} (e : dr st d = .tup i) : d = .tup i := by
  unfold dr at e; split at e
  · split at e <;> cases e
  · exact e
theorem dr_scr {i : List D} (e : dr st d = .scr i) : d = .scr i := by
  unfold dr at e; split at e
  · split at e <;> cases e
  · exact e
theorem dr_lst {xs : List D} (r : Rel G W H st) (p : Rp G.K W H d v) (e : dr st d = .lst xs) : ∃ a vs, v = .ref a ∧ H a = some (.lst vs) ∧ RpL G.K W H xs vs := by
  unfold dr at e; split at e
  · split at e
    · rename_i k _ ys q
      cases e
      simp only [Rp] at p
      obtain ⟨a, h1, rfl⟩ := p
      obtain ⟨b, h2, h3⟩ := r.cell _ _ q
      rw [h1] at h2; cases h2
      obtain ⟨vs, h4, h5⟩ := h3
      exact ⟨a, vs, rfl, h4, h5⟩
    · cases e
  · subst e
    simp only [Rp] at p
    obtain ⟨a, vs, rfl, _, _, h3, h4⟩ := p
    exact ⟨a, vs, rfl, h3, h4⟩
theorem scr_sq {xs : List D} (p : Rp G.K W H (.scr xs) v) : ∃ a vs, v = .ref a ∧ SqL G.K H a vs ∧ RpL G.K W H xs vs := by
  simp only [Rp] at p
  obtain ⟨a, vs, rfl, h3, h4⟩ := p
  exact ⟨a, vs, rfl, h3.sq, h4⟩
theorem tup_sq {xs : List D} (p : Rp G.K W H (.tup xs) v) : ∃ a vs, v = .ref a ∧ SqT G.K H a vs ∧ RpL G.K W H xs vs := by
  simp only [Rp] at p
  obtain ⟨a, vs, rfl, h3, h4⟩ := p
  exact ⟨a, vs, rfl, h3.sq, h4⟩
theorem tup_sqK {K : PySem.W.Frag} {xs : List D} (p : Rp K W H (.tup xs) v) : ∃ a vs, v = .ref a ∧ SqT K H a vs ∧ RpL K W H xs vs := by
  simp only [Rp] at p
  obtain ⟨a, vs, rfl, h3, h4⟩ := p
  exact ⟨a, vs, rfl, h3.sq, h4⟩
theorem onI_of {k : Int → Prop} (p : Rp G.K W H d v) (h : onI d k) : ∃ i, v = .int i ∧ k i := by
  unfold onI at h; split at h
  · simp only [Rp] at p; exact ⟨_, p, h⟩
  · cases h
theorem onB_of {k : Bool → Prop} (p : Rp G.K W H d v) (h : onB d k) : ∃ i, v = .bl i ∧ k i := by
  unfold onB at h; split at h
  · simp only [Rp] at p; exact ⟨_, p, h⟩
  · cases h
theorem onS_of {k : Str → Prop} (p : Rp G.K W H d v) (h : onS d k) : ∃ i, v = .str i ∧ k i := by
  unfold onS at h; split at h
  · simp only [Rp] at p; exact ⟨_, p, h⟩
  · cases h
theorem onL_of {k : List D → Prop} (r : Rel G W H st) (p : Rp G.K W H d v) (h : onL st d k) : ∃ a vs xs, v = .ref a ∧ SqL G.K H a vs ∧ RpL G.K W H xs vs ∧ k xs := by
  unfold onL at h
  split at h
  · rename_i xs e
    obtain ⟨a, vs, q1, q2, q3⟩ := dr_lst r p e
    exact ⟨a, vs, xs, q1, SqL.of q2, q3, h⟩
  · rename_i xs e
    obtain rfl := dr_scr e
    obtain ⟨a, vs, q1, q2, q3⟩ := scr_sq p
    exact ⟨a, vs, xs, q1, q2, q3, h⟩
  · cases h
theorem onQ_of {k : List D → Prop} (r : Rel G W H st) (p : Rp G.K W H d v) (h : onQ st d k) : ∃ a vs xs, v = .ref a ∧ (SqL G.K H a vs ∨ SqT G.K H a vs) ∧ RpL G.K W H xs vs ∧ k xs := by
  unfold onQ at h
  split at h
  · rename_i xs e
    obtain ⟨a, vs, q1, q2, q3⟩ := dr_lst r p e
    exact ⟨a, vs, xs, q1, .inl (SqL.of q2), q3, h⟩
  · rename_i xs e
    obtain rfl := dr_scr e
    obtain ⟨a, vs, q1, q2, q3⟩ := scr_sq p
    exact ⟨a, vs, xs, q1, .inl q2, q3, h⟩
  · rename_i xs e
    obtain rfl := dr_tup e
    obtain ⟨a, vs, q1, q2, q3⟩ := tup_sq p
    exact ⟨a, vs, xs, q1, .inr q2, q3, h⟩
  · cases h
end
@[simp] theorem onI_int (i : Int) (k : Int → Prop) : onI (.int i) k = k i := rfl
@[simp] theorem onB_bl (i : Bool) (k : Bool → Prop) : onB (.bl i) k = k i := rfl
@[simp] theorem onS_str (i : Str) (k : Str → Prop) : onS (.str i) k = k i := rfl
@[simp] theorem dr_intD (st : Sto) (i : Int) : dr st (.int i) = .int i := rfl
@[simp] theorem dr_blD (st : Sto) (i : Bool) : dr st (.bl i) = .bl i := rfl
@[simp] theorem dr_nonD (st : Sto) : dr st .non = .non := rfl
@[simp] theorem dr_strD (st : Sto) (i : Str) : dr st (.str i) = .str i := rfl
@[simp] theorem dr_lstD (st : Sto) (i : List D) : dr st (.lst i) = .lst i := rfl
@[simp] theorem dr_scrD (st : Sto) (i : List D) : dr st (.scr i) = .scr i := rfl
@[simp] theorem dr_tupD (st : Sto) (i : List D) : dr st (.tup i) = .tup i := rfl
theorem dr_hdl {st : Sto} {k : Nat} {xs : List D} (h : st[k]? = some (.lst xs)) : dr st (.hdl k) = .lst xs := by
  show (match st[k]? with | some (.lst xs) => D.lst xs | _ => .hdl k) = _
  rw [h]
@[simp] theorem onL_lst (st : Sto) (i : List D) (k : List D → Prop) : onL st (.lst i) k = k i := rfl
@[simp] theorem onL_scr (st : Sto) (i : List D) (k : List D → Prop) : onL st (.scr i) k = k i := rfl
@[simp] theorem onQ_lst (st : Sto) (i : List D) (k : List D → Prop) : onQ st (.lst i) k = k i := rfl
@[simp] theorem onQ_scr (st : Sto) (i : List D) (k : List D → Prop) : onQ st (.scr i) k = k i := rfl
@[simp] theorem onQ_tup (st : Sto) (i : List D) (k : List D → Prop) : onQ st (.tup i) k = k i := rfl
theorem onL_hdl {st : Sto} {j : Nat} {xs : List D} {k : List D → Prop} (h : st[j]? = some (.lst xs)) : onL st (.hdl j) k = k xs := by
  unfold onL; rw [dr_hdl h]
theorem onQ_hdl {st : Sto} {j : Nat} {xs : List D} {k : List D → Prop} (h : st[j]? = some (.lst xs)) : onQ st (.hdl j) k = k xs := by
  unfold onQ; rw [dr_hdl h]

/-! ## names, constants -/
section
variable {G : Gm} {E : XK} {X : Cx}
@[simp] def mVar (i : Nat) : ME := fun ρ st R _ => match ρ[i]? with | some (some d) => R d st | _ => False
@[simp] def mC (d : D) : ME := fun _ st R _ => R d st
theorem pd_var (i : Nat) {x : Str} {pos : Pos} (hN : X.N[i]? = some x := by rfl) (hv : Vis X.env.scope x := by first | exact Or.inl rfl | exact Or.inr (Or.inl rfl) | exact Or.inr (Or.inr rfl)) (hd : (x == ("__debug__" : Str)) = false := by decide)
    (hcd : (x == ("__classdict__" : Str)) = false := by decide) : PDE G E X (.Name x pos) (mVar i) :=
  PE.weak (pe_var hN hv hd hcd) fun σ H Q ⟨W, ρ, st, R, xq, rel, re, w, o⟩ => by
    unfold mVar at w
    split at w
    · rename_i d e
      obtain ⟨v, h1, h2⟩ := re.get i d e
      exact ⟨v, h1, o.rt W H d v st Le.refl rel h2 w⟩
    · cases w
theorem pd_c {e : Expr} {d : D} {v : V} (h : PE X e (tC v)) (hr : ∀ W H, Rp G.K W H d v) : PDE G E X e (mC d) :=
  PE.weak h fun σ H Q ⟨W, ρ, st, R, xq, rel, re, w, o⟩ => o.rt W H d v st Le.refl rel (hr W H) w
theorem pd_int {i j pos} : PDE G E X (.Constant (.int i) j pos) (mC (.int i)) := pd_c pe_int fun _ _ => rfl
theorem pd_bl {i j pos} : PDE G E X (.Constant (.bool i) j pos) (mC (.bl i)) := pd_c pe_bl fun _ _ => rfl
theorem pd_non {j pos} : PDE G E X (.Constant .none j pos) (mC .non) := pd_c pe_non fun _ _ => rfl
theorem pd_str {i j pos} : PDE G E X (.Constant (.str i) j pos) (mC (.str i)) := pd_c pe_str fun _ _ => rfl

/-! ## two-place operations -/
abbrev D2 := D → D → Sto → DQ → Prop
def OpD (G : Gm) (r : R2) (r' : D2) : Prop := ∀ (E : XK) (W : Wd) (H : Hp) (st : Sto) (dx dy : D) (x y : V) (R : DQ) (xq : XQ) (Q : VK),
  Rel G W H st → Rp G.K W H dx x → Rp G.K W H dy y → r' dx dy st R → OutE G E W H R xq Q → r x y H Q
@[simp] def mOp (r' : D2) (wa wb : ME) : ME := fun ρ st R xq => wa ρ st (fun x st1 => wb ρ st1 (fun y st2 => r' x y st2 R) xq) xq
theorem op_lift {r : R2} {r' : D2} {wa wb : ME} (hd : OpD G r r') {σ : L2.St} {H : Hp} {Q : VK} (h : tD G E (mOp r' wa wb) σ H Q) :
    tOp r (tD G E wa) (tD G E wb) σ H Q := by
  obtain ⟨W, ρ, st, R, xq, rel, re, w, o⟩ := h
  refine ⟨W, ρ, st, _, xq, rel, re, w, ⟨fun W1 H1 dx x st1 l1 rel1 rx w1 => ?_, o.xq⟩⟩
  refine ⟨W1, ρ, st1, _, xq, rel1, re.le l1, w1, ⟨fun W2 H2 dy y st2 l2 rel2 ry w2 => ?_, (o.le l1).xq⟩⟩
  exact hd E W2 H2 st2 dx dy x y R xq Q rel2 (rx.le l2) ry w2 (o.le (l1.trans l2))
theorem pd_op {a b : Expr} {wa wb : ME} {op : Operator} {r : R2} {r' : D2} {pos : Pos} (ho : OpR X (binaryOp op) r) (hd : OpD G r r') (ha : PDE G E X a wa) (hb : PDE G E X b wb) : PDE G E X (.BinOp a op b pos) (mOp r' wa wb) :=
  PE.weak (pe_op ho ha hb) fun _ _ _ h => op_lift hd h
theorem pd_cmp {a b : Expr} {wa wb : ME} {op : CmpOp} {r : R2} {r' : D2} {pos : Pos} (ho : OpR X (compareOp op) r) (hd : OpD G r r') (ha : PDE G E X a wa) (hb : PDE G E X b wb) (hm : behindInMarks op b = false := by first | exact nomark _ | rfl) : PDE G E X (.Compare a [op] [b] pos) (mOp r' wa wb) :=
  PE.weak (pe_cmpR ho ha hb hm) fun _ _ _ h => op_lift hd h
/-- a bool as a test -/
@[simp] def mTest (w : ME) : MT := fun ρ st R xq => w ρ st (fun d st' => onB d fun b => R b st') xq
theorem test_out {W : Wd} {H : Hp} {R : Bool → Sto → Prop} {xq : XQ} {Q : Bool → Hp → Prop} (o : OutT G E W H R xq Q) :
    OutE G E W H (fun d st' => onB d fun b => R b st') xq (fun x H' => ∃ k, x = .bl k ∧ Q k H') :=
  ⟨fun W' H' d v st' l rel rv h => by
    obtain ⟨b, e, h⟩ := onB_of rv h
    exact ⟨b, e, o.rt W' H' b st' l rel h⟩, o.xq⟩
theorem pt_cmp {a b : Expr} {wa wb : ME} {op : CmpOp} {r : R2} {r' : D2} {pos : Pos} (ho : OpR X (compareOp op) r) (hd : OpD G r r') (ha : PDE G E X a wa) (hb : PDE G E X b wb) (hm : behindInMarks op b = false := by first | exact nomark _ | rfl) : PDT G E X (.Compare a [op] [b] pos) (mTest (mOp r' wa wb)) :=
  PT.weak (pt_cmpR ho ha hb hm) fun σ H Q ⟨W, ρ, st, R, xq, rel, re, w, o⟩ => op_lift hd ⟨W, ρ, st, _, xq, rel, re, w, test_out o⟩
theorem pt_val {e : Expr} {w : ME} (h : PDE G E X e w) (he : ∀ whole, isTrue e X.env whole = (do let v ← whole; standAt e.pos; holding [v] (truthy v)) := by intro _; rfl) : PDT G E X e (mTest w) :=
  PT.weak (L2.pt_val h he) fun σ H Q ⟨W, ρ, st, R, xq, rel, re, w, o⟩ => ⟨W, ρ, st, _, xq, rel, re, w, test_out o⟩
@[simp] def mAnd (t u : MT) : MT := fun ρ st R xq => t ρ st (fun c st1 => if c = true then u ρ st1 R xq else R false st1) xq
@[simp] def mOr (t u : MT) : MT := fun ρ st R xq => t ρ st (fun c st1 => if c = true then R true st1 else u ρ st1 R xq) xq
@[simp] def mNot (t : MT) : MT := fun ρ st R xq => t ρ st (fun c st1 => R (!c) st1) xq
theorem pw_and1 {a : Expr} {t : MT} {pos : Pos} (h : PDT G E X a t) : PDW G E X (.BoolOp .And [a] pos) t := L2.pw_and1 h
theorem pw_or1 {a : Expr} {t : MT} {pos : Pos} (h : PDT G E X a t) : PDW G E X (.BoolOp .Or [a] pos) t := L2.pw_or1 h
theorem pw_and {a b : Expr} {rest : List Expr} {t u : MT} {pos : Pos} (ha : PDT G E X a t) (hb : PDW G E X (.BoolOp .And (b :: rest) pos) u) : PDW G E X (.BoolOp .And (a :: b :: rest) pos) (mAnd t u) :=
  PW.weak (L2.pw_and ha hb) fun σ H Q ⟨W, ρ, st, R, xq, rel, re, w, o⟩ =>
    ⟨W, ρ, st, _, xq, rel, re, w, ⟨fun W1 H1 c st1 l1 rel1 w1 => by
      cases c with
      | true => exact ⟨W1, ρ, st1, R, xq, rel1, re.le l1, w1, o.le l1⟩
      | false => exact o.rt W1 H1 false st1 l1 rel1 w1, o.xq⟩⟩
theorem pw_or {a b : Expr} {rest : List Expr} {t u : MT} {pos : Pos} (ha : PDT G E X a t) (hb : PDW G E X (.BoolOp .Or (b :: rest) pos) u) : PDW G E X (.BoolOp .Or (a :: b :: rest) pos) (mOr t u) :=
  PW.weak (L2.pw_or ha hb) fun σ H Q ⟨W, ρ, st, R, xq, rel, re, w, o⟩ =>
    ⟨W, ρ, st, _, xq, rel, re, w, ⟨fun W1 H1 c st1 l1 rel1 w1 => by
      cases c with
      | false => exact ⟨W1, ρ, st1, R, xq, rel1, re.le l1, w1, o.le l1⟩
      | true => exact o.rt W1 H1 true st1 l1 rel1 w1, o.xq⟩⟩
theorem pt_w {a : Expr} {t : MT} (h : PDW G E X a t) : PDT G E X a t := PW.pt h
theorem pt_not {a : Expr} {t : MT} {pos : Pos} (h : PDT G E X a t) : PDT G E X (.UnaryOp .Not a pos) (mNot t) :=
  PT.weak (L2.pt_not h) fun σ H Q ⟨W, ρ, st, R, xq, rel, re, w, o⟩ =>
    ⟨W, ρ, st, _, xq, rel, re, w, ⟨fun W1 H1 c st1 l1 rel1 w1 => o.rt W1 H1 (!c) st1 l1 rel1 w1, o.xq⟩⟩
/-- .. as values -/
@[simp] def mAndV (wa wb : ME) : ME := fun ρ st R xq => wa ρ st (fun d st1 => onB d fun c => if c = true then wb ρ st1 R xq else R (.bl false) st1) xq
@[simp] def mOrV (wa wb : ME) : ME := fun ρ st R xq => wa ρ st (fun d st1 => onB d fun c => if c = true then R (.bl true) st1 else wb ρ st1 R xq) xq
@[simp] def mNotV (wa : ME) : ME := fun ρ st R xq => wa ρ st (fun d st1 => onB d fun c => R (.bl (!c)) st1) xq
theorem pd_one {op} {a : Expr} {w : ME} {pos : Pos} (h : PDE G E X a w) : PDE G E X (.BoolOp op [a] pos) w := pe_one h
theorem pd_and {a b : Expr} {rest : List Expr} {wa wb : ME} {pos : Pos} (ha : PDE G E X a wa) (hb : PDE G E X (.BoolOp .And (b :: rest) pos) wb) : PDE G E X (.BoolOp .And (a :: b :: rest) pos) (mAndV wa wb) :=
  PE.weak (pe_and ha hb) fun σ H Q ⟨W, ρ, st, R, xq, rel, re, w, o⟩ =>
    ⟨W, ρ, st, _, xq, rel, re, w, ⟨fun W1 H1 d v st1 l1 rel1 rv w1 => by
      obtain ⟨c, e, w1⟩ := onB_of rv w1
      refine ⟨c, e, ?_⟩
      cases c with
      | true => exact ⟨W1, ρ, st1, R, xq, rel1, re.le l1, w1, o.le l1⟩
      | false => exact o.rt W1 H1 (.bl false) _ st1 l1 rel1 rfl w1, o.xq⟩⟩
theorem pd_or {a b : Expr} {rest : List Expr} {wa wb : ME} {pos : Pos} (ha : PDE G E X a wa) (hb : PDE G E X (.BoolOp .Or (b :: rest) pos) wb) : PDE G E X (.BoolOp .Or (a :: b :: rest) pos) (mOrV wa wb) :=
  PE.weak (pe_or ha hb) fun σ H Q ⟨W, ρ, st, R, xq, rel, re, w, o⟩ =>
    ⟨W, ρ, st, _, xq, rel, re, w, ⟨fun W1 H1 d v st1 l1 rel1 rv w1 => by
      obtain ⟨c, e, w1⟩ := onB_of rv w1
      refine ⟨c, e, ?_⟩
      cases c with
      | false => exact ⟨W1, ρ, st1, R, xq, rel1, re.le l1, w1, o.le l1⟩
      | true => exact o.rt W1 H1 (.bl true) _ st1 l1 rel1 rfl w1, o.xq⟩⟩
theorem pd_not {a : Expr} {wa : ME} {pos : Pos} (ha : PDE G E X a wa) : PDE G E X (.UnaryOp .Not a pos) (mNotV wa) :=
  PE.weak (pe_not ha) fun σ H Q ⟨W, ρ, st, R, xq, rel, re, w, o⟩ =>
    ⟨W, ρ, st, _, xq, rel, re, w, ⟨fun W1 H1 d v st1 l1 rel1 rv w1 => by
      obtain ⟨c, e, w1⟩ := onB_of rv w1
      exact ⟨c, e, o.rt W1 H1 (.bl (!c)) _ st1 l1 rel1 rfl w1⟩, o.xq⟩⟩
@[simp] def mIf (t : MT) (wa wb : ME) : ME := fun ρ st R xq => t ρ st (fun c st1 => if c = true then wa ρ st1 R xq else wb ρ st1 R xq) xq
theorem pd_if {c a b : Expr} {t : MT} {wa wb : ME} {pos : Pos} (hc : PDT G E X c t) (ha : PDE G E X a wa) (hb : PDE G E X b wb) : PDE G E X (.IfExp c a b pos) (mIf t wa wb) :=
  PE.weak (pe_ifExp hc ha hb) fun σ H Q ⟨W, ρ, st, R, xq, rel, re, w, o⟩ =>
    ⟨W, ρ, st, _, xq, rel, re, w, ⟨fun W1 H1 c st1 l1 rel1 w1 => by
      cases c with
      | true => exact ⟨W1, ρ, st1, R, xq, rel1, re.le l1, w1, o.le l1⟩
      | false => exact ⟨W1, ρ, st1, R, xq, rel1, re.le l1, w1, o.le l1⟩, o.xq⟩⟩

/-! ### numbers -/
@[simp] def dII (C : Int → Int → Prop) (g : Int → Int → D) : D2 := fun x y st R => onI x fun i => onI y fun j => C i j ∧ R (g i j) st
@[simp] def dII0 (g : Int → Int → D) : D2 := fun x y st R => onI x fun i => onI y fun j => R (g i j) st
theorem od_ii {C : Int → Int → Prop} {g : Int → Int → V} {g' : Int → Int → D} (h : ∀ W H i j, Rp G.K W H (g' i j) (g i j)) : OpD G (rI C g) (dII C g') := by
  intro E W H st dx dy x y R xq Q rel rx ry w o
  obtain ⟨i, e1, w⟩ := onI_of rx w
  obtain ⟨j, e2, hc, w⟩ := onI_of ry w
  exact ⟨i, j, e1, e2, hc, o.rt W H _ _ st Le.refl rel (h W H i j) w⟩
theorem od_ii0 {g : Int → Int → V} {g' : Int → Int → D} (h : ∀ W H i j, Rp G.K W H (g' i j) (g i j)) : OpD G (rI0 g) (dII0 g') := by
  intro E W H st dx dy x y R xq Q rel rx ry w o
  obtain ⟨i, e1, w⟩ := onI_of rx w
  obtain ⟨j, e2, w⟩ := onI_of ry w
  exact ⟨i, j, e1, e2, o.rt W H _ _ st Le.refl rel (h W H i j) w⟩
theorem OpD.or {r r' : R2} {d d' : D2} (h : OpD G r d) (h' : OpD G r' d') : OpD G (fun x y H Q => r x y H Q ∨ r' x y H Q) (fun x y st R => d x y st R ∨ d' x y st R) := by
  intro E W H st dx dy x y R xq Q rel rx ry w o
  rcases w with w | w
  · exact .inl (h E W H st dx dy x y R xq Q rel rx ry w o)
  · exact .inr (h' E W H st dx dy x y R xq Q rel rx ry w o)
@[simp] abbrev dSub : D2 := dII0 fun i j => .int (i - j)
theorem od_sub : OpD G (rI0 fun i j => .int (i - j)) dSub := od_ii0 fun _ _ _ _ => rfl
@[simp] abbrev dMulI : D2 := dII CMulX fun i j => .int (i * j)
@[simp] abbrev dDiv : D2 := dII CDivW fun i j => .int (i / j)
theorem od_div : OpD G (rI CDivW fun i j => .int (i / j)) dDiv := od_ii fun _ _ _ _ => rfl
@[simp] abbrev dMod : D2 := dII (fun _ j => 0 < j) fun i j => .int (i % j)
theorem od_mod : OpD G (rI (fun _ j => 0 < j) fun i j => .int (i % j)) dMod := od_ii fun _ _ _ _ => rfl
@[simp] abbrev dPow : D2 := dII CPow fun i j => .int (i ^ j.toNat)
theorem od_pow : OpD G (rI CPow fun i j => .int (i ^ j.toNat)) dPow := od_ii fun _ _ _ _ => rfl
@[simp] abbrev dShl : D2 := dII CPow fun i j => .int (i * 2 ^ j.toNat)
theorem od_shl : OpD G (rI CPow fun i j => .int (i * 2 ^ j.toNat)) dShl := od_ii fun _ _ _ _ => rfl
@[simp] abbrev dShr : D2 := dII (fun _ j => 0 ≤ j) fun i j => .int (i / 2 ^ j.toNat)
theorem od_shr : OpD G (rI (fun _ j => 0 ≤ j) fun i j => .int (i / 2 ^ j.toNat)) dShr := od_ii fun _ _ _ _ => rfl
@[simp] abbrev dBand : D2 := dII0 fun i j => .int (Builtin.bitAnd i j)
theorem od_band : OpD G (rI0 fun i j => .int (Builtin.bitAnd i j)) dBand := od_ii0 fun _ _ _ _ => rfl
@[simp] abbrev dBor : D2 := dII0 fun i j => .int (Builtin.bitOr i j)
theorem od_bor : OpD G (rI0 fun i j => .int (Builtin.bitOr i j)) dBor := od_ii0 fun _ _ _ _ => rfl
@[simp] abbrev dBxor : D2 := dII0 fun i j => .int (Builtin.bitXor i j)
theorem od_bxor : OpD G (rI0 fun i j => .int (Builtin.bitXor i j)) dBxor := od_ii0 fun _ _ _ _ => rfl
@[simp] abbrev dLt : D2 := dII0 fun i j => .bl (decide (i < j))
theorem od_lt : OpD G (rI0 fun i j => .bl (decide (i < j))) dLt := od_ii0 fun _ _ _ _ => rfl
@[simp] abbrev dLe : D2 := dII0 fun i j => .bl (decide (i ≤ j))
theorem od_le : OpD G (rI0 fun i j => .bl (decide (i ≤ j))) dLe := od_ii0 fun _ _ _ _ => rfl
@[simp] abbrev dGt : D2 := dII0 fun i j => .bl (decide (j < i))
theorem od_gt : OpD G (rI0 fun i j => .bl (decide (j < i))) dGt := od_ii0 fun _ _ _ _ => rfl
@[simp] abbrev dGe : D2 := dII0 fun i j => .bl (decide (j ≤ i))
theorem od_ge : OpD G (rI0 fun i j => .bl (decide (j ≤ i))) dGe := od_ii0 fun _ _ _ _ => rfl

/-! ### + : numbers, texts, lists -/
def rAddS : R2 := fun x y H Q => ∃ i j, x = .str i ∧ y = .str j ∧ i.length + j.length ≤ sizeLine ∧ Q (.str (i ++ j)) H
def rADD : R2 := fun x y H Q => rI0 (fun i j => .int (i + j)) x y H Q ∨ rAddS x y H Q ∨ rCat x y H Q
theorem op_ADD : OpR X (binaryOp .Add) rADD := op_add.or ((show OpR X (binaryOp .Add) rAddS from op_add_str).or op_cat)
@[simp] def dAdd : D2 := fun x y st R => match dr st x, dr st y with
  | .int i, .int j => R (.int (i + j)) st
  | .str i, .str j => i.length + j.length ≤ sizeLine ∧ R (.str (i ++ j)) st
  | .lst a, .lst b => a.length + b.length ≤ sizeLine ∧ R (.lst (a ++ b)) st
  | _, _ => False
theorem od_add : OpD G rADD dAdd := by
  intro E W H st dx dy x y R xq Q rel rx ry w o
  unfold dAdd at w
  split at w
  · rename_i i j e1 e2
    obtain rfl := dr_int e1
    obtain rfl := dr_int e2
    simp only [Rp] at rx ry
    exact .inl ⟨i, j, rx, ry, o.rt W H (.int (i + j)) _ st Le.refl rel rfl w⟩
  · rename_i i j e1 e2
    obtain rfl := dr_str e1
    obtain rfl := dr_str e2
    simp only [Rp] at rx ry
    exact .inr (.inl ⟨i, j, rx, ry, w.1, o.rt W H (.str (i ++ j)) _ st Le.refl rel rfl w.2⟩)
  · rename_i a b e1 e2
    obtain ⟨p, vs, h1, h2, h3⟩ := dr_lst rel rx e1
    obtain ⟨q, us, h4, h5, h6⟩ := dr_lst rel ry e2
    refine .inr (.inr ⟨p, q, vs, us, h1, h4, h2, h5, ?_, fun l hl => ?_⟩)
    · rw [h3.length, h6.length]; exact w.1
    · exact o.rt W _ (.lst (a ++ b)) _ st (Le.fresh hl) (rel.fresh hl) (newL rel hl (h3.append h6)) w.2
  · cases w
/-! ### * : numbers, a list so often -/
def rMUL : R2 := fun x y H Q => rI CMulX (fun i j => .int (i * j)) x y H Q ∨ rRep x y H Q
theorem op_MUL : OpR X (binaryOp .Mult) rMUL := op_mulX.or op_rep
@[simp] def dMul : D2 := fun x y st R => match dr st x, y with
  | .int i, .int j => CMulX i j ∧ R (.int (i * j)) st
  | .lst a, .int k => -(2 ^ 63) ≤ k ∧ k < 2 ^ 63 ∧ a.length * k.toNat ≤ sizeLine ∧ R (.lst (List.replicate k.toNat a).flatten) st
  | _, _ => False
theorem RpL.rep {K : PySem.W.Frag} {W : Wd} {H : Hp} {ds : List D} {vs : List V} (h : RpL K W H ds vs) : ∀ k : Nat, RpL K W H (List.replicate k ds).flatten (List.replicate k vs).flatten
  | 0 => RpL.nil
  | k + 1 => by
    simp only [List.replicate_succ, List.flatten_cons]
    exact h.append (RpL.rep h k)
theorem od_mul : OpD G rMUL dMul := by
  intro E W H st dx dy x y R xq Q rel rx ry w o
  unfold dMul at w
  split at w
  · rename_i i j e1
    obtain rfl := dr_int e1
    simp only [Rp] at rx ry
    exact .inl ⟨i, j, rx, ry, w.1, o.rt W H (.int (i * j)) _ st Le.refl rel rfl w.2⟩
  · rename_i a k e1
    obtain ⟨p, vs, h1, h2, h3⟩ := dr_lst rel rx e1
    simp only [Rp] at ry
    obtain ⟨w1, w2, w3, w4⟩ := w
    refine .inr ⟨p, k, vs, h1, ry, h2, w1, w2, by rw [h3.length]; exact w3, fun l hl => ?_⟩
    exact o.rt W _ (.lst _) _ st (Le.fresh hl) (rel.fresh hl) (newL rel hl (h3.rep _)) w4
  · cases w
/-! ### is -/
@[simp] def isNon : D → Bool | .non => true | .raw v => decide (v = .non) | _ => false
theorem isNon_eq {K : PySem.W.Frag} {W : Wd} {H : Hp} {d : D} {v : V} (h : Rp K W H d v) : decide (v = .non) = isNon d := by
  cases d with
  | non => simp only [Rp] at h; subst h; rfl
  | bl b => simp only [Rp] at h; subst h; rfl
  | int b => simp only [Rp] at h; subst h; rfl
  | str b => simp only [Rp] at h; subst h; rfl
  | lst b => simp only [Rp] at h; obtain ⟨a, vs, rfl, _⟩ := h; rfl
  | tup b => simp only [Rp] at h; obtain ⟨a, vs, rfl, _⟩ := h; rfl
  | scr b => simp only [Rp] at h; obtain ⟨a, vs, rfl, _⟩ := h; rfl
  | hdl b => simp only [Rp] at h; obtain ⟨a, _, rfl⟩ := h; rfl
  | raw b => simp only [Rp] at h; subst h; rfl
  | exc b => simp only [Rp] at h; obtain ⟨a, rfl, _⟩ := h; rfl
def rIsN : R2 := fun x y H Q => y = .non ∧ Q (.bl (decide (x = .non))) H
def rNotN : R2 := fun x y H Q => y = .non ∧ Q (.bl (!decide (x = .non))) H
@[simp] def dIsN : D2 := fun x y st R => match y with | .non => R (.bl (isNon x)) st | _ => False
@[simp] def dNotN : D2 := fun x y st R => match y with | .non => R (.bl (!isNon x)) st | _ => False
theorem op_isN' : OpR X (compareOp .Is) rIsN := op_isN
theorem op_notN' : OpR X (compareOp .IsNot) rNotN := op_notN
theorem od_isN : OpD G rIsN dIsN := by
  intro E W H st dx dy x y R xq Q rel rx ry w o
  unfold dIsN at w
  split at w
  · simp only [Rp] at ry
    exact ⟨ry, by rw [isNon_eq rx]; exact o.rt W H (.bl (isNon dx)) _ st Le.refl rel rfl w⟩
  · cases w
theorem od_notN : OpD G rNotN dNotN := by
  intro E W H st dx dy x y R xq Q rel rx ry w o
  unfold dNotN at w
  split at w
  · simp only [Rp] at ry
    exact ⟨ry, by rw [isNon_eq rx]; exact o.rt W H (.bl (!isNon dx)) _ st Le.refl rel rfl w⟩
  · cases w
/-! ### one-place operations -/
@[simp] def mUn (r' : D → Sto → DQ → Prop) (wa : ME) : ME := fun ρ st R xq => wa ρ st (fun x st1 => r' x st1 R) xq
def UnD (G : Gm) (r : V → Hp → VK → Prop) (r' : D → Sto → DQ → Prop) : Prop := ∀ (E : XK) (W : Wd) (H : Hp) (st : Sto) (dx : D) (x : V) (R : DQ) (xq : XQ) (Q : VK),
  Rel G W H st → Rp G.K W H dx x → r' dx st R → OutE G E W H R xq Q → r x H Q
theorem pd_un {a : Expr} {wa : ME} {op : UnaryOp} {r : V → Hp → VK → Prop} {r' : D → Sto → DQ → Prop} {pos : Pos} (ho : UnR X (unaryOp op) r) (hd : UnD G r r') (ha : PDE G E X a wa) : PDE G E X (.UnaryOp op a pos) (mUn r' wa) :=
  PE.weak (pe_un ho ha) fun σ H Q ⟨W, ρ, st, R, xq, rel, re, w, o⟩ =>
    ⟨W, ρ, st, _, xq, rel, re, w, ⟨fun W1 H1 dx x st1 l1 rel1 rx w1 => hd E W1 H1 st1 dx x R xq Q rel1 rx w1 (o.le l1), o.xq⟩⟩
@[simp] abbrev dNeg : D → Sto → DQ → Prop := fun x st R => onI x fun i => R (.int (-i)) st
theorem ud_neg : UnD G (rU fun i => .int (-i)) dNeg := by
  intro E W H st dx x R xq Q rel rx w o
  obtain ⟨i, e1, w⟩ := onI_of rx w
  exact ⟨i, e1, o.rt W H (.int (-i)) _ st Le.refl rel rfl w⟩
end
end DL

set_option Elab.async false
set_option linter.all false
set_option maxRecDepth 100000
set_option autoImplicit false
namespace DL
open PySem PySem.Spec PyProof.Rows L2

section
variable {G : Gm} {E : XK} {X : Cx}
/-! ### is, is not of truth values (the left may be None) -/
def rIsB : R2 := fun x y H Q => ∃ b : Bool, y = .bl b ∧ ((∃ a : Bool, x = .bl a ∧ Q (.bl (decide (a = b))) H) ∨ (x = .non ∧ Q (.bl false) H))
def rNotB : R2 := fun x y H Q => ∃ b : Bool, y = .bl b ∧ ((∃ a : Bool, x = .bl a ∧ Q (.bl (!decide (a = b))) H) ∨ (x = .non ∧ Q (.bl true) H))
theorem op_isB : OpR X (compareOp .Is) rIsB := by
  intro pins s σ H x y v u Q I rx ry h
  obtain ⟨b, rfl, ⟨a, rfl, q⟩ | ⟨rfl, q⟩⟩ := h
  · exact op_isBl pins s σ H (.bl a) (.bl b) v u Q I rx ry ⟨a, b, rfl, rfl, q⟩
  · cases (show v = Value.none from rx)
    cases (show u = Value.bool b from ry)
    exact wpAny_is_other rfl (fun z => by cases z) ⟨.bl false, H, I, rfl, q⟩
theorem op_notB : OpR X (compareOp .IsNot) rNotB := by
  intro pins s σ H x y v u Q I rx ry h
  obtain ⟨b, rfl, ⟨a, rfl, q⟩ | ⟨rfl, q⟩⟩ := h
  · exact op_notBl pins s σ H (.bl a) (.bl b) v u Q I rx ry ⟨a, b, rfl, rfl, q⟩
  · cases (show v = Value.none from rx)
    cases (show u = Value.bool b from ry)
    exact wpAny_isNot_other rfl (fun z => by cases z) ⟨.bl true, H, I, rfl, q⟩
@[simp] def dIsB : D2 := fun x y st R => onB y fun b => match x with | .bl a => R (.bl (decide (a = b))) st | .non => R (.bl false) st | _ => False
@[simp] def dNotB : D2 := fun x y st R => onB y fun b => match x with | .bl a => R (.bl (!decide (a = b))) st | .non => R (.bl true) st | _ => False
theorem od_isB : OpD G rIsB dIsB := by
  intro E W H st dx dy x y R xq Q rel rx ry w o
  obtain ⟨b, e, w⟩ := onB_of ry w
  split at w
  · simp only [Rp] at rx; exact ⟨b, e, .inl ⟨_, rx, o.rt W H (.bl _) _ st Le.refl rel rfl w⟩⟩
  · simp only [Rp] at rx; exact ⟨b, e, .inr ⟨rx, o.rt W H (.bl _) _ st Le.refl rel rfl w⟩⟩
  · cases w
theorem od_notB : OpD G rNotB dNotB := by
  intro E W H st dx dy x y R xq Q rel rx ry w o
  obtain ⟨b, e, w⟩ := onB_of ry w
  split at w
  · simp only [Rp] at rx; exact ⟨b, e, .inl ⟨_, rx, o.rt W H (.bl _) _ st Le.refl rel rfl w⟩⟩
  · simp only [Rp] at rx; exact ⟨b, e, .inr ⟨rx, o.rt W H (.bl _) _ st Le.refl rel rfl w⟩⟩
  · cases w

/-! ### arguments, displays -/
@[simp] def maNil : MA := fun _ st R _ => R [] st
@[simp] def maCons (w : ME) (r : MA) : MA := fun ρ st R xq => w ρ st (fun x st1 => r ρ st1 (fun xs st2 => R (x :: xs) st2) xq) xq
theorem ma_nil : PDA G E X [] maNil := PA.weak pa_nil fun σ H Q ⟨W, ρ, st, R, xq, rel, re, w, o⟩ => o.rt W H [] [] st Le.refl rel RpL.nil w
theorem ma_cons {e : Expr} {es : List Expr} {w : ME} {r : MA} (h : PDE G E X e w) (hr : PDA G E X es r) (hs : starEach (e :: es) X.env = (false, eval e X.env) :: starEach es X.env := by rfl) : PDA G E X (e :: es) (maCons w r) :=
  PA.weak (pa_cons h hr hs) fun σ H Q ⟨W, ρ, st, R, xq, rel, re, w, o⟩ =>
    ⟨W, ρ, st, _, xq, rel, re, w, ⟨fun W1 H1 d v st1 l1 rel1 rv w1 =>
      ⟨W1, ρ, st1, _, xq, rel1, re.le l1, w1, ⟨fun W2 H2 ds vs st2 l2 rel2 rvs w2 => o.rt W2 H2 (d :: ds) (v :: vs) st2 (l1.trans l2) rel2 (RpL.cons (rv.le l2) rvs) w2, (o.le l1).xq⟩⟩, o.xq⟩⟩
@[simp] def mLst (r : MA) : ME := fun ρ st R xq => r ρ st (fun xs st1 => xs.length ≤ sizeLine ∧ R (.lst xs) st1) xq
@[simp] def mTup (r : MA) : ME := fun ρ st R xq => r ρ st (fun xs st1 => xs.length ≤ sizeLine ∧ R (.tup xs) st1) xq
@[simp] def mLstH (r : MA) : ME := fun ρ st R xq => r ρ st (fun xs st1 => xs.length ≤ sizeLine ∧ R (.hdl st1.length) (st1 ++ [.lst xs])) xq
theorem pd_lst {es : List Expr} {r : MA} {pos : Pos} (h : PDA G E X es r) : PDE G E X (.List es pos) (mLst r) :=
  PE.weak (pe_lst h) fun σ H Q ⟨W, ρ, st, R, xq, rel, re, w, o⟩ =>
    ⟨W, ρ, st, _, xq, rel, re, w, ⟨fun W1 H1 ds vs st1 l1 rel1 rvs w1 => ⟨by rw [rvs.length]; exact w1.1, fun p hp =>
      o.rt W1 _ (.lst ds) _ st1 (l1.trans (Le.fresh hp)) (rel1.fresh hp) (newL rel1 hp rvs) w1.2⟩, o.xq⟩⟩
theorem pd_tup {es : List Expr} {r : MA} {j} {pos : Pos} (h : PDA G E X es r) : PDE G E X (.Tuple es j pos) (mTup r) :=
  PE.weak (pe_tup h) fun σ H Q ⟨W, ρ, st, R, xq, rel, re, w, o⟩ =>
    ⟨W, ρ, st, _, xq, rel, re, w, ⟨fun W1 H1 ds vs st1 l1 rel1 rvs w1 => ⟨by rw [rvs.length]; exact w1.1, fun p hp =>
      o.rt W1 _ (.tup ds) _ st1 (l1.trans (Le.fresh hp)) (rel1.fresh hp) (newT rel1 hp rvs) w1.2⟩, o.xq⟩⟩
theorem pd_lstH {es : List Expr} {r : MA} {pos : Pos} (h : PDA G E X es r) : PDE G E X (.List es pos) (mLstH r) :=
  PE.weak (pe_lst h) fun σ H Q ⟨W, ρ, st, R, xq, rel, re, w, o⟩ =>
    ⟨W, ρ, st, _, xq, rel, re, w, ⟨fun W1 H1 ds vs st1 l1 rel1 rvs w1 => ⟨by rw [rvs.length]; exact w1.1, fun p hp =>
      o.rt _ _ (.hdl st1.length) _ _ (l1.trans (Le.new hp)) (newHL rel1 hp rvs).1 (newHL rel1 hp rvs).2 w1.2⟩, o.xq⟩⟩
/-- {} -/
@[simp] def mDic : ME := fun _ st R _ => R (.hdl st.length) (st ++ [.dK []])
theorem pd_dic {pos : Pos} : PDE G E X (.Dict [] [] pos) mDic :=
  PE.weak pe_dnewK fun σ H Q ⟨W, ρ, st, R, xq, rel, re, w, o⟩ p hp =>
    let q := newHK (ds := []) (vs := []) rel hp rfl
    o.rt _ _ (.hdl st.length) _ _ (Le.new hp) q.1 q.2 w

/-! ### dicts -/
@[simp] def toK : D → Option Key
  | .int i => some (.inl i)
  | .str x => some (.inr x)
  | _ => none
def valD (kvs : List (Key × D)) (k : Key) : Option D := (kvs.find? fun kv => decide (kv.1 = k)).map (·.2)
def putD (kvs : List (Key × D)) (k : Key) (v : D) : List (Key × D) :=
  if (kvs.any fun kv => decide (kv.1 = k)) = true then kvs.map fun kv => if kv.1 = k then (kv.1, v) else kv else kvs ++ [(k, v)]
def dropD (kvs : List (Key × D)) (k : Key) : List (Key × D) := kvs.filter fun kv => decide (kv.1 ≠ k)
theorem toK_of {K : PySem.W.Frag} {W : Wd} {H : Hp} {d : D} {v : V} {k : Key} (h : Rp K W H d v) (e : toK d = some k) : v = kV k := by
  cases d <;> simp only [toK] at e <;> cases e <;> exact h
section
variable {K : PySem.W.Frag} {W : Wd} {H : Hp}
theorem RpK.any : ∀ {kvs : List (Key × D)} {vs : List (Key × V)} (k : Key), RpK K W H kvs vs → (kvs.any fun kv => decide (kv.1 = k)) = vs.any fun kv => decide (kv.1 = k)
  | [], _, _, h => by simp only [RpK] at h; subst h; rfl
  | (j, d) :: kvs, vs, k, h => by
    simp only [RpK] at h
    obtain ⟨v, r, rfl, h1, h2⟩ := h
    simp only [List.any_cons, RpK.any k h2]
theorem RpK.val : ∀ {kvs : List (Key × D)} {vs : List (Key × V)} (k : Key), RpK K W H kvs vs → (∃ d v, valD kvs k = some d ∧ valV vs k = some v ∧ Rp K W H d v) ∨ (valD kvs k = none ∧ valV vs k = none)
  | [], _, _, h => by simp only [RpK] at h; subst h; exact .inr ⟨rfl, rfl⟩
  | (j, d) :: kvs, vs, k, h => by
    simp only [RpK] at h
    obtain ⟨v, r, rfl, h1, h2⟩ := h
    by_cases e : j = k
    · exact .inl ⟨d, v, by simp [valD, e], by simp [valV, e], h1⟩
    · have a1 : valD ((j, d) :: kvs) k = valD kvs k := by simp [valD, e]
      have a2 : valV ((j, v) :: r) k = valV r k := by simp [valV, e]
      rw [a1, a2]
      exact RpK.val k h2
theorem RpK.append : ∀ {a b : List (Key × D)} {x y : List (Key × V)}, RpK K W H a x → RpK K W H b y → RpK K W H (a ++ b) (x ++ y)
  | [], _, _, _, h, h' => by simp only [RpK] at h; subst h; exact h'
  | (j, d) :: kvs, b, x, y, h, h' => by
    simp only [RpK] at h
    obtain ⟨v, r, rfl, h1, h2⟩ := h
    exact ⟨v, r ++ y, rfl, h1, RpK.append h2 h'⟩
theorem RpK.repl {k : Key} {d : D} {v : V} (hd : Rp K W H d v) : ∀ {a : List (Key × D)} {x : List (Key × V)}, RpK K W H a x → RpK K W H (a.map fun kv => if kv.1 = k then (kv.1, d) else kv) (x.map fun kv => if kv.1 = k then (kv.1, v) else kv)
  | [], _, h => by simp only [RpK] at h; subst h; rfl
  | (j, e) :: kvs, x, h => by
    simp only [RpK] at h
    obtain ⟨u, r, rfl, h1, h2⟩ := h
    by_cases q : j = k
    · simp only [List.map_cons, q, if_true]
      exact ⟨v, _, rfl, hd, RpK.repl hd h2⟩
    · simp only [List.map_cons, q, if_false]
      exact ⟨u, _, rfl, h1, RpK.repl hd h2⟩
theorem RpK.put {kvs : List (Key × D)} {vs : List (Key × V)} {k : Key} {d : D} {v : V} (h : RpK K W H kvs vs) (hd : Rp K W H d v) : RpK K W H (putD kvs k d) (putK vs k v) := by
  unfold putD putK
  rw [h.any k]
  split
  · exact h.repl hd
  · exact h.append ⟨v, [], rfl, hd, rfl⟩
theorem RpK.drop {k : Key} : ∀ {a : List (Key × D)} {x : List (Key × V)}, RpK K W H a x → RpK K W H (dropD a k) (dropK x k)
  | [], _, h => by simp only [RpK] at h; subst h; rfl
  | (j, e) :: kvs, x, h => by
    simp only [RpK] at h
    obtain ⟨u, r, rfl, h1, h2⟩ := h
    have ih := RpK.drop (k := k) h2
    unfold dropD dropK at ih ⊢
    by_cases q : j = k
    · have e1 : decide (j ≠ k) = false := by simp [q]
      simp only [List.filter_cons, e1]
      exact ih
    · have e1 : decide (j ≠ k) = true := by simp [q]
      simp only [List.filter_cons, e1]
      exact ⟨u, _, rfl, h1, ih⟩
theorem RpK.length : ∀ {a : List (Key × D)} {x : List (Key × V)}, RpK K W H a x → x.length = a.length
  | [], _, h => by simp only [RpK] at h; subst h; rfl
  | (j, e) :: kvs, x, h => by
    simp only [RpK] at h
    obtain ⟨u, r, rfl, h1, h2⟩ := h
    simp [RpK.length h2]
end
/-- the dict at a handle -/
def onK (st : Sto) (d : D) (k : Nat → List (Key × D) → Prop) : Prop := match d with
  | .hdl j => match st[j]? with | some (.dK kvs) => k j kvs | _ => False
  | _ => False
theorem onK_hdl {st : Sto} {j : Nat} {kvs : List (Key × D)} {k : Nat → List (Key × D) → Prop} (h : st[j]? = some (.dK kvs)) : onK st (.hdl j) k = k j kvs := by
  show (match st[j]? with | some (.dK kvs) => k j kvs | _ => False) = _
  rw [h]
theorem onK_of {W : Wd} {H : Hp} {st : Sto} {d : D} {v : V} {k : Nat → List (Key × D) → Prop} (r : Rel G W H st) (p : Rp G.K W H d v) (h : onK st d k) :
    ∃ j a kvs vs, v = .ref a ∧ W.m[j]? = some a ∧ H a = some (.dK vs) ∧ RpK G.K W H kvs vs ∧ k j kvs := by
  unfold onK at h
  split at h
  · split at h
    · rename_i j _ kvs e
      simp only [Rp] at p
      obtain ⟨a, h1, rfl⟩ := p
      obtain ⟨b, h2, vs, h3, h4⟩ := r.cell _ _ e
      rw [h1] at h2; cases h2
      exact ⟨_, a, kvs, vs, rfl, h1, h3, h4, h⟩
    · cases h
  · cases h
/-- a[b]: a list, a tuple, a text, a dict -/
def rIxK : R2 := fun x y H Q => ∃ a v, x = .ref a ∧ DGet H a y (some v) ∧ Q v H
theorem ix_dict (hu : X.A.units + 1 < cLine) : IxR X rIxK := by
  intro value slice pins s σ H x y v u Q I rx ry h hs
  obtain ⟨a, z, rfl, g, q⟩ := h
  cases (show v = Value.ref a from rx)
  exact tail_any (dict_typeIs I g) PySem.F.slot_dict_getitem.lookup (d_getItem hu I g ry fun w' s' I' r' => ⟨z, H, I', r', q⟩) hs
def rIX (K : PySem.W.Frag) : R2 := fun x y H Q => rIx K x y H Q ∨ rIxK x y H Q
theorem ix_ALL (hu : X.A.units + 1 < cLine) : IxR X (rIX X.K) := ix_seq.or (ix_dict hu)
@[simp] def dIx : D2 := fun x y st R => match dr st x, y with
  | .lst xs, .int i => ∃ d, atI xs i = some d ∧ R d st
  | .scr xs, .int i => ∃ d, atI xs i = some d ∧ R d st
  | .tup xs, .int i => ∃ d, atI xs i = some d ∧ R d st
  | .str z, .int i => z.length ≤ sizeLine ∧ ∃ c, atI z.cps.toList i = some c ∧ R (.str ⟨#[c]⟩) st
  | .hdl k, y => onK st (.hdl k) fun _ kvs => ∃ key d, toK y = some key ∧ valD kvs key = some d ∧ R d st
  | _, _ => False
theorem atI_rp {K : PySem.W.Frag} {W : Wd} {H : Hp} {xs : List D} {vs : List V} {i : Int} {d : D} (r : RpL K W H xs vs) (e : atI xs i = some d) : ∃ v, atI vs i = some v ∧ Rp K W H d v := by
  unfold atI at e ⊢
  rw [r.length]
  cases q : ixN xs.length i with
  | none => rw [q] at e; cases e
  | some j =>
    rw [q] at e
    exact r.get e
theorem dr_hdlE {st : Sto} {d : D} {k : Nat} (e : dr st d = .hdl k) : d = .hdl k := by
  unfold dr at e; split at e
  · split at e
    · cases e
    · exact e
  · exact e
theorem od_ix (hK : G.K = X.K) : OpD G (rIX X.K) dIx := by
  intro E W H st dx dy x y R xq Q rel rx ry w o
  rw [← hK]
  unfold dIx at w
  split at w
  · rename_i xs i e
    obtain ⟨p, vs, h1, h2, h3⟩ := dr_lst rel rx e
    obtain ⟨d, e2, w⟩ := w
    obtain ⟨v, e3, rv⟩ := atI_rp h3 e2
    exact .inl (.inl ⟨p, vs, i, v, h1, ry, SqL.of h2, e3, o.rt W H d v st Le.refl rel rv w⟩)
  · rename_i xs i e
    obtain rfl := dr_scr e
    obtain ⟨p, vs, h1, h2, h3⟩ := scr_sq rx
    obtain ⟨d, e2, w⟩ := w
    obtain ⟨v, e3, rv⟩ := atI_rp h3 e2
    exact .inl (.inl ⟨p, vs, i, v, h1, ry, h2, e3, o.rt W H d v st Le.refl rel rv w⟩)
  · rename_i xs i e
    obtain rfl := dr_tup e
    obtain ⟨p, vs, h1, h2, h3⟩ := tup_sq rx
    obtain ⟨d, e2, w⟩ := w
    obtain ⟨v, e3, rv⟩ := atI_rp h3 e2
    exact .inl (.inr (.inl ⟨p, vs, i, v, h1, ry, h2, e3, o.rt W H d v st Le.refl rel rv w⟩))
  · rename_i z i e
    obtain rfl := dr_str e
    obtain ⟨h0, c, e2, w⟩ := w
    exact .inl (.inr (.inr ⟨z, i, c, rx, ry, h0, e2, o.rt W H (.str _) _ st Le.refl rel rfl w⟩))
  · rename_i k y e
    obtain rfl := dr_hdlE e
    obtain ⟨j, a, kvs, vs, rfl, h1, h2, h3, key, d, e1, e2, w⟩ := onK_of rel rx w
    obtain rfl := toK_of ry e1
    rcases h3.val key with ⟨d', v, q1, q2, q3⟩ | ⟨q1, _⟩
    · rw [e2] at q1; cases q1
      refine .inr ⟨a, v, rfl, ?_, o.rt W H d v st Le.refl rel q3 w⟩
      rw [← q2]
      exact DGet.k h2
    · rw [e2] at q1; cases q1
  · cases w
theorem pd_ix {a b : Expr} {wa wb : ME} {pos : Pos} (hu : X.A.units + 1 < cLine) (ha : PDE G E X a wa) (hb : PDE G E X b wb) (hs : PlainIx b := by intro _ _; rfl) (hK : G.K = X.K := by rfl) : PDE G E X (.Subscript a b pos) (mOp dIx wa wb) :=
  PE.weak (pe_ix (ix_ALL hu) ha hb hs) fun _ _ _ h => op_lift (od_ix hK) h

/-! ### in, not in -/
def rInK (neg : Bool) : R2 := fun x y H Q => ∃ a o, y = .ref a ∧ DGet H a x o ∧ Q (.bl (if neg then !o.isSome else o.isSome)) H
theorem op_inK (hu : X.A.units + 1 < cLine) : OpR X (compareOp .In) (rInK false) := by
  intro pins s σ H x y v u Q I rx ry h
  obtain ⟨a, o, rfl, g, q⟩ := h
  cases (show u = Value.ref a from ry)
  exact d_in hu I g rx fun s' I' => ⟨.bl o.isSome, H, I', rfl, q⟩
theorem op_notInK (hu : X.A.units + 1 < cLine) : OpR X (compareOp .NotIn) (rInK true) := by
  intro pins s σ H x y v u Q I rx ry h
  obtain ⟨a, o, rfl, g, q⟩ := h
  cases (show u = Value.ref a from ry)
  exact d_notIn hu I g rx fun s' I' => ⟨.bl (!o.isSome), H, I', rfl, q⟩
def rInS (neg : Bool) : R2 := fun x y H Q => ∃ i j, x = .str i ∧ y = .str j ∧ Q (.bl (if neg then !(!(Builtin.Str.occurrences j i 0 j.length 1).isEmpty) else !(Builtin.Str.occurrences j i 0 j.length 1).isEmpty)) H
def rIN (K : PySem.W.Frag) (neg : Bool) : R2 := fun x y H Q => rIn K neg x y H Q ∨ rInK neg x y H Q ∨ rInS neg x y H Q
theorem op_IN (hu : X.A.units + 1 < cLine) : OpR X (compareOp .In) (rIN X.K false) := op_in_seq.or ((op_inK hu).or (show OpR X (compareOp .In) (rInS false) from op_in_str))
theorem op_NIN (hu : X.A.units + 1 < cLine) : OpR X (compareOp .NotIn) (rIN X.K true) := op_notIn_seq.or ((op_notInK hu).or (show OpR X (compareOp .NotIn) (rInS true) from op_notin_str))
@[simp] def flatD : D → Bool | .non => true | .bl _ => true | .int _ => true | .str _ => true | _ => false
def fv : D → V | .bl b => .bl b | .int i => .int i | .str x => .str x | _ => .non
theorem fv_of {K : PySem.W.Frag} {W : Wd} {H : Hp} {d : D} {v : V} (f : flatD d = true) (h : Rp K W H d v) : v = fv d := by
  cases d <;> first | (simp [flatD] at f; done) | exact h
theorem fv_all {K : PySem.W.Frag} {W : Wd} {H : Hp} : ∀ {ds : List D} {vs : List V}, ds.all flatD = true → RpL K W H ds vs → vs = ds.map fv ∧ vs.all flatV = true
  | [], _, _, h => by simp only [RpL] at h; subst h; exact ⟨rfl, rfl⟩
  | d :: ds, vs, f, h => by
    simp only [RpL] at h
    obtain ⟨v, r, rfl, h1, h2⟩ := h
    simp only [List.all_cons, Bool.and_eq_true] at f ⊢
    obtain ⟨e1, e2⟩ := fv_all f.2 h2
    have e3 := fv_of f.1 h1
    refine ⟨by rw [e1, e3]; rfl, ?_, e2⟩
    rw [e3]
    cases d <;> rfl
/-- == of flat data -/
def eqFD (x y : D) : Bool := eqV (fv x) (fv y)
theorem inV_map (x : D) (ds : List D) : inV (fv x) (ds.map fv) = ds.any fun y => eqFD y x := by
  unfold inV; rw [List.any_map]; rfl
@[simp] def dIN (neg : Bool) : D2 := fun x y st R => match dr st y with
  | .lst xs => flatD x = true ∧ xs.all flatD = true ∧ R (.bl (if neg then !(xs.any fun y => eqFD y x) else xs.any fun y => eqFD y x)) st
  | .scr xs => flatD x = true ∧ xs.all flatD = true ∧ R (.bl (if neg then !(xs.any fun y => eqFD y x) else xs.any fun y => eqFD y x)) st
  | .tup xs => flatD x = true ∧ xs.all flatD = true ∧ R (.bl (if neg then !(xs.any fun y => eqFD y x) else xs.any fun y => eqFD y x)) st
  | .str z => onS x fun i => R (.bl (if neg then !(!(Builtin.Str.occurrences z i 0 z.length 1).isEmpty) else !(Builtin.Str.occurrences z i 0 z.length 1).isEmpty)) st
  | .hdl k => onK st (.hdl k) fun _ kvs => ∃ key, toK x = some key ∧ R (.bl (if neg then !(valD kvs key).isSome else (valD kvs key).isSome)) st
  | _ => False
theorem od_in (hK : G.K = X.K) (neg : Bool) : OpD G (rIN X.K neg) (dIN neg) := by
  intro E W H st dx dy x y R xq Q rel rx ry w o
  rw [← hK]
  unfold dIN at w
  split at w
  · rename_i xs e
    obtain ⟨p, vs, h1, h2, h3⟩ := dr_lst rel ry e
    obtain ⟨f1, f2, w⟩ := w
    obtain ⟨e1, e2⟩ := fv_all f2 h3
    have e3 := fv_of f1 rx
    refine .inl ⟨p, vs, h1, .inl (SqL.of h2), ?_, e2, ?_⟩
    · rw [e3]; cases dx <;> rfl
    · rw [e1, e3, inV_map]; exact o.rt W H (.bl _) _ st Le.refl rel rfl w
  · rename_i xs e
    obtain rfl := dr_scr e
    obtain ⟨p, vs, h1, h2, h3⟩ := scr_sq ry
    obtain ⟨f1, f2, w⟩ := w
    obtain ⟨e1, e2⟩ := fv_all f2 h3
    have e3 := fv_of f1 rx
    refine .inl ⟨p, vs, h1, .inl h2, ?_, e2, ?_⟩
    · rw [e3]; cases dx <;> rfl
    · rw [e1, e3, inV_map]; exact o.rt W H (.bl _) _ st Le.refl rel rfl w
  · rename_i xs e
    obtain rfl := dr_tup e
    obtain ⟨p, vs, h1, h2, h3⟩ := tup_sq ry
    obtain ⟨f1, f2, w⟩ := w
    obtain ⟨e1, e2⟩ := fv_all f2 h3
    have e3 := fv_of f1 rx
    refine .inl ⟨p, vs, h1, .inr h2, ?_, e2, ?_⟩
    · rw [e3]; cases dx <;> rfl
    · rw [e1, e3, inV_map]; exact o.rt W H (.bl _) _ st Le.refl rel rfl w
  · rename_i z e
    obtain rfl := dr_str e
    obtain ⟨i, e1, w⟩ := onS_of rx w
    exact .inr (.inr ⟨i, z, e1, ry, o.rt W H (.bl _) _ st Le.refl rel rfl w⟩)
  · rename_i k e
    obtain rfl := dr_hdlE e
    obtain ⟨j, a, kvs, vs, rfl, h1, h2, h3, key, e1, w⟩ := onK_of rel ry w
    obtain rfl := toK_of rx e1
    refine .inr (.inl ⟨a, _, rfl, DGet.k h2, ?_⟩)
    rcases h3.val key with ⟨d', v, q1, q2, q3⟩ | ⟨q1, q2⟩
    · rw [q1] at w; rw [q2]; exact o.rt W H (.bl _) _ st Le.refl rel rfl w
    · rw [q1] at w; rw [q2]; exact o.rt W H (.bl _) _ st Le.refl rel rfl w
  · cases w
theorem pd_in {a b : Expr} {wa wb : ME} {pos : Pos} (hu : X.A.units + 1 < cLine) (ha : PDE G E X a wa) (hb : PDE G E X b wb) (hm : behindInMarks .In b = false := by rfl) (hK : G.K = X.K := by rfl) : PDE G E X (.Compare a [.In] [b] pos) (mOp (dIN false) wa wb) := pd_cmp (op_IN hu) (od_in hK false) ha hb hm
theorem pt_in {a b : Expr} {wa wb : ME} {pos : Pos} (hu : X.A.units + 1 < cLine) (ha : PDE G E X a wa) (hb : PDE G E X b wb) (hm : behindInMarks .In b = false := by rfl) (hK : G.K = X.K := by rfl) : PDT G E X (.Compare a [.In] [b] pos) (mTest (mOp (dIN false) wa wb)) := pt_cmp (op_IN hu) (od_in hK false) ha hb hm
theorem pd_nin {a b : Expr} {wa wb : ME} {pos : Pos} (hu : X.A.units + 1 < cLine) (ha : PDE G E X a wa) (hb : PDE G E X b wb) (hm : behindInMarks .NotIn b = false := by rfl) (hK : G.K = X.K := by rfl) : PDE G E X (.Compare a [.NotIn] [b] pos) (mOp (dIN true) wa wb) := pd_cmp (op_NIN hu) (od_in hK true) ha hb hm
theorem pt_nin {a b : Expr} {wa wb : ME} {pos : Pos} (hu : X.A.units + 1 < cLine) (ha : PDE G E X a wa) (hb : PDE G E X b wb) (hm : behindInMarks .NotIn b = false := by rfl) (hK : G.K = X.K := by rfl) : PDT G E X (.Compare a [.NotIn] [b] pos) (mTest (mOp (dIN true) wa wb)) := pt_cmp (op_NIN hu) (od_in hK true) ha hb hm

/-! ### slices -/
def cutD (xs : List D) (lo hi : Option Int) : List D := (xs.drop (HT.sIx xs.length 0 lo)).take (HT.sIx xs.length xs.length hi - HT.sIx xs.length 0 lo)
theorem cut_rp {K : PySem.W.Frag} {W : Wd} {H : Hp} {xs : List D} {vs : List V} (r : RpL K W H xs vs) (lo hi : Option Int) : RpL K W H (cutD xs lo hi) (cutV vs lo hi) := by
  unfold cutD cutV
  rw [r.length]
  exact (r.drop _).take _
abbrev MO := DEnv → Sto → (Option Int → Sto → Prop) → XQ → Prop
structure OutO (G : Gm) (E : XK) (W : Wd) (H : Hp) (R : Option Int → Sto → Prop) (xq : XQ) (Q : Option Int → Hp → Prop) : Prop where
  rt : ∀ W' H' b st', Le W H W' H' → Rel G W' H' st' → R b st' → Q b H'
  xq : ∀ W' H' C st', Le W H W' H' → Rel G W' H' st' → xq C st' → E (.ref C) none H'
def tDO (G : Gm) (E : XK) (w : MO) : TO := fun σ H Q => ∃ W ρ st R xq, Rel G W H st ∧ RpE G.K W H ρ σ ∧ w ρ st R xq ∧ OutO G E W H R xq Q
def PDO (G : Gm) (E : XK) (X : Cx) (e : Option Expr) (w : MO) : Prop := PO X e (tDO G E w)
theorem PO.weak {X : Cx} {e : Option Expr} {t t' : TO} (h : PO X e t) (hw : ∀ σ H Q, t' σ H Q → t σ H Q) : PO X e t' := ⟨fun pins s σ H Q I q => h.run pins s σ H Q I (hw _ _ _ q)⟩
@[simp] def moNone : MO := fun _ st R _ => R none st
@[simp] def moSome (w : ME) : MO := fun ρ st R xq => w ρ st (fun d st1 => onI d fun i => R (some i) st1) xq
theorem mo_none : PDO G E X none moNone := PO.weak po_none fun σ H Q ⟨W, ρ, st, R, xq, rel, re, w, o⟩ => o.rt W H none st Le.refl rel w
theorem mo_some {e : Expr} {w : ME} (h : PDE G E X e w) : PDO G E X (some e) (moSome w) := PO.weak (po_some h) fun σ H Q ⟨W, ρ, st, R, xq, rel, re, w, o⟩ =>
  ⟨W, ρ, st, _, xq, rel, re, w, ⟨fun W1 H1 d v st1 l1 rel1 rv w1 => by
    obtain ⟨i, e, w1⟩ := onI_of rv w1
    exact ⟨i, e, o.rt W1 H1 (some i) st1 l1 rel1 w1⟩, o.xq⟩⟩
def rSL (K : PySem.W.Frag) : V → Option Int → Option Int → Hp → VK → Prop := fun x lo hi H Q => rSlL K x lo hi H Q ∨ rSlT K x lo hi H Q
@[simp] def dSl (x : D) (lo hi : Option Int) (st : Sto) (R : DQ) : Prop := match dr st x with
  | .lst xs => R (.lst (cutD xs lo hi)) st
  | .scr xs => R (.lst (cutD xs lo hi)) st
  | .tup xs => ¬ (HT.sIx xs.length 0 lo = 0 ∧ HT.sIx xs.length xs.length hi = xs.length) ∧ R (.tup (cutD xs lo hi)) st
  | _ => False
@[simp] def mSl (we : ME) (wl wh : MO) : ME := fun ρ st R xq => we ρ st (fun x st1 => wl ρ st1 (fun lo st2 => wh ρ st2 (fun hi st3 => dSl x lo hi st3 R) xq) xq) xq
theorem sl_SL : SlR X (rSL X.K) := sl_list.or sl_tup
theorem pd_sl {e : Expr} {lo hi : Option Expr} {we : ME} {wl wh : MO} {pos p2 : Pos} (he : PDE G E X e we) (hl : PDO G E X lo wl) (hh : PDO G E X hi wh) (hK : G.K = X.K := by rfl) : PDE G E X (.Subscript e (.Slice lo hi none p2) pos) (mSl we wl wh) :=
  PE.weak (pe_slice sl_SL he hl hh) fun σ H Q ⟨W, ρ, st, R, xq, rel, re, w, o⟩ =>
  ⟨W, ρ, st, _, xq, rel, re, w, ⟨fun W1 H1 d v st1 l1 rel1 rv w1 =>
    ⟨W1, ρ, st1, _, xq, rel1, re.le l1, w1, ⟨fun W2 H2 lo st2 l2 rel2 w2 =>
      ⟨W2, ρ, st2, _, xq, rel2, re.le (l1.trans l2), w2, ⟨fun W3 H3 hi st3 l3 rel3 w3 => by
        have rv3 := rv.le (l2.trans l3)
        have o3 := o.le (l1.trans (l2.trans l3))
        rw [← hK]
        unfold dSl at w3
        split at w3
        · rename_i xs e
          obtain ⟨p, vs, h1, h2, h3⟩ := dr_lst rel3 rv3 e
          exact .inl ⟨p, vs, h1, SqL.of h2, fun q hq => o3.rt W3 _ (.lst _) _ st3 (Le.fresh hq) (rel3.fresh hq) (newL rel3 hq (cut_rp h3 lo hi)) w3⟩
        · rename_i xs e
          rw [dr_scr e] at rv3
          obtain ⟨p, vs, h1, h2, h3⟩ := scr_sq rv3
          exact .inl ⟨p, vs, h1, h2, fun q hq => o3.rt W3 _ (.lst _) _ st3 (Le.fresh hq) (rel3.fresh hq) (newL rel3 hq (cut_rp h3 lo hi)) w3⟩
        · rename_i xs e
          rw [dr_tup e] at rv3
          obtain ⟨p, vs, h1, h2, h3⟩ := tup_sq rv3
          exact .inr ⟨p, vs, h1, h2, by rw [h3.length]; exact w3.1, fun q hq => o3.rt W3 _ (.tup _) _ st3 (Le.fresh hq) (rel3.fresh hq) (newT rel3 hq (cut_rp h3 lo hi)) w3.2⟩
        · exact w3.elim, (o.le (l1.trans l2)).xq⟩⟩, (o.le l1).xq⟩⟩, o.xq⟩⟩

/-! ### built-in functions and types -/
abbrev D1 := List D → Sto → DQ → Prop
def CaD (G : Gm) (r : List V → Hp → VK → Prop) (r' : D1) : Prop := ∀ (E : XK) (W : Wd) (H : Hp) (st : Sto) (ds : List D) (vs : List V) (R : DQ) (xq : XQ) (Q : VK),
  Rel G W H st → RpL G.K W H ds vs → r' ds st R → OutE G E W H R xq Q → r vs H Q
@[simp] def mCa (r' : D1) (w : MA) : ME := fun ρ st R xq => w ρ st (fun ds st1 => r' ds st1 R) xq
theorem ca_lift {r : List V → Hp → VK → Prop} {r' : D1} {w : MA} (hd : CaD G r r') {σ : L2.St} {H : Hp} {Q : VK} (h : tD G E (mCa r' w) σ H Q) : tCB r (tDA G E w) σ H Q := by
  obtain ⟨W, ρ, st, R, xq, rel, re, w, o⟩ := h
  exact ⟨W, ρ, st, _, xq, rel, re, w, ⟨fun W1 H1 ds vs st1 l1 rel1 rv w1 => hd E W1 H1 st1 ds vs R xq Q rel1 rv w1 (o.le l1), o.xq⟩⟩
theorem pd_callB {x : Str} {p pos : Pos} {e : Expr} {es : List Expr} {id : String} {r : List V → Hp → VK → Prop} {r' : D1} {w : MA} (hc : CallR X (.builtin id) r) (hd : CaD G r r') (hm : X.mg x = none) (hv : bootBuiltins x = some (.builtin id)) (ha : PDA G E X (e :: es) w) (hg : Gl X x := by rfl) (hn : x ≠ "__name__" := by decide) (hdb : (x == ("__debug__" : Str)) = false := by decide)
    (he : starEach (e :: es) X.env = (false, eval e X.env) :: starEach es X.env := by rfl) (hpl : (backTo pos (starEach es X.env)).any (·.1) = false := by rfl) : PDE G E X (.Call (.Name x p) (e :: es) [] pos) (mCa r' w) :=
  PE.weak (pe_callB hc hg hm hv ha hn hdb he hpl) fun _ _ _ h => ca_lift hd h
theorem pd_callTy {x : Str} {p pos : Pos} {e : Expr} {es : List Expr} {T : String} {r : List V → Hp → VK → Prop} {r' : D1} {w : MA} (hc : CallR X (.type T) r) (hd : CaD G r r') (hm : X.mg x = none) (hv : bootBuiltins x = some (.type T)) (ha : PDA G E X (e :: es) w) (hg : Gl X x := by rfl) (hn : x ≠ "__name__" := by decide) (hdb : (x == ("__debug__" : Str)) = false := by decide)
    (he : starEach (e :: es) X.env = (false, eval e X.env) :: starEach es X.env := by rfl) (hpl : (backTo pos (starEach es X.env)).any (·.1) = false := by rfl) : PDE G E X (.Call (.Name x p) (e :: es) [] pos) (mCa r' w) :=
  PE.weak (pe_callTy hc hg hm hv ha hn hdb he hpl) fun _ _ _ h => ca_lift hd h
theorem rpl1 {K : PySem.W.Frag} {W : Wd} {H : Hp} {d : D} {vs : List V} (h : RpL K W H [d] vs) : ∃ v, vs = [v] ∧ Rp K W H d v := by
  simp only [RpL] at h
  obtain ⟨v, r, rfl, h1, rfl⟩ := h
  exact ⟨v, rfl, h1⟩
theorem rpl2 {K : PySem.W.Frag} {W : Wd} {H : Hp} {d e : D} {vs : List V} (h : RpL K W H [d, e] vs) : ∃ v u, vs = [v, u] ∧ Rp K W H d v ∧ Rp K W H e u := by
  simp only [RpL] at h
  obtain ⟨v, r, rfl, h1, u, r', rfl, h2, rfl⟩ := h
  exact ⟨v, u, rfl, h1, h2⟩
/-- len -/
def rLenA (K : PySem.W.Frag) : List V → Hp → VK → Prop := fun xs H Q => ∃ x n, xs = [x] ∧ LenV K x H n ∧ Q (.int n) H
def rLenK : List V → Hp → VK → Prop := fun xs H Q => ∃ d kvs, xs = [.ref d] ∧ H d = some (.dK kvs) ∧ Q (.int kvs.length) H
theorem call_lenK : CallR X (.builtin "len") rLenK := by
  intro pins s σ H xs us Q I r h
  obtain ⟨d, kvs, rfl, e, q⟩ := h
  obtain ⟨u, rfl, rx⟩ := vals1 r
  cases (show u = Value.ref d from rx)
  exact d_len I (.inl e) fun t s' I' => ⟨.int kvs.length, H, I', ⟨t, rfl⟩, q⟩
def rLEN (K : PySem.W.Frag) : List V → Hp → VK → Prop := fun xs H Q => rLenA K xs H Q ∨ rLenK xs H Q
theorem call_LEN : CallR X (.builtin "len") (rLEN X.K) := (show CallR X (.builtin "len") (rLenA X.K) from call_len).or call_lenK
@[simp] def dLen : D1 := fun ds st R => match ds with
  | [d] => match dr st d with
    | .lst xs => R (.int xs.length) st
    | .scr xs => R (.int xs.length) st
    | .tup xs => R (.int xs.length) st
    | .str z => z.length ≤ sizeLine ∧ R (.int z.length) st
    | .hdl k => onK st (.hdl k) fun _ kvs => R (.int kvs.length) st
    | _ => False
  | _ => False
theorem cd_len (hK : G.K = X.K) : CaD G (rLEN X.K) dLen := by
  intro E W H st ds vs R xq Q rel rs w o
  rw [← hK]
  unfold dLen at w
  split at w
  · rename_i d
    obtain ⟨v, rfl, rv⟩ := rpl1 rs
    split at w
    · rename_i xs e
      obtain ⟨p, vs, h1, h2, h3⟩ := dr_lst rel rv e
      subst h1
      exact .inl ⟨.ref p, vs.length, rfl, .inl ⟨vs, SqL.of h2, rfl⟩, by rw [h3.length]; exact o.rt W H (.int _) _ st Le.refl rel rfl w⟩
    · rename_i xs e
      rw [dr_scr e] at rv
      obtain ⟨p, vs, h1, h2, h3⟩ := scr_sq rv
      subst h1
      exact .inl ⟨.ref p, vs.length, rfl, .inl ⟨vs, h2, rfl⟩, by rw [h3.length]; exact o.rt W H (.int _) _ st Le.refl rel rfl w⟩
    · rename_i xs e
      rw [dr_tup e] at rv
      obtain ⟨p, vs, h1, h2, h3⟩ := tup_sq rv
      subst h1
      exact .inl ⟨.ref p, vs.length, rfl, .inr ⟨vs, h2, rfl⟩, by rw [h3.length]; exact o.rt W H (.int _) _ st Le.refl rel rfl w⟩
    · rename_i z e
      rw [dr_str e] at rv
      simp only [Rp] at rv
      subst rv
      exact .inl ⟨.str z, z.length, rfl, ⟨w.1, rfl⟩, o.rt W H (.int _) _ st Le.refl rel rfl w.2⟩
    · rename_i k e
      rw [dr_hdlE e] at rv
      obtain ⟨j, a, kvs, vs, rfl, h1, h2, h3, w⟩ := onK_of rel rv w
      exact .inr ⟨a, vs, rfl, h2, by rw [h3.length]; exact o.rt W H (.int _) _ st Le.refl rel rfl w⟩
    · cases w
  · cases w
/-- list(..), of a list or a tuple: as data, as a handle -/
@[simp] def dList : D1 := fun ds st R => match ds with | [d] => onQ st d fun xs => R (.lst xs) st | _ => False
@[simp] def dListH : D1 := fun ds st R => match ds with | [d] => onQ st d fun xs => R (.hdl st.length) (st ++ [.lst xs]) | _ => False
def rList (K : PySem.W.Frag) : List V → Hp → VK → Prop := fun xs H Q => ∃ p ys, xs = [.ref p] ∧ (SqL K H p ys ∨ SqT K H p ys) ∧ ∀ l, H l = none → Q (.ref l) (upd H l (.lst ys))
theorem call_LIST : CallR X (.type "list") (rList X.K) := call_list_of
theorem cd_list (hK : G.K = X.K) : CaD G (rList X.K) dList := by
  intro E W H st ds vs R xq Q rel rs w o
  rw [← hK]
  unfold dList at w
  split at w
  · obtain ⟨v, rfl, rv⟩ := rpl1 rs
    obtain ⟨a, vs, xs, rfl, h1, h2, w⟩ := onQ_of rel rv w
    exact ⟨a, vs, rfl, h1, fun l hl => o.rt W _ (.lst xs) _ st (Le.fresh hl) (rel.fresh hl) (newL rel hl h2) w⟩
  · cases w
theorem cd_listH (hK : G.K = X.K) : CaD G (rList X.K) dListH := by
  intro E W H st ds vs R xq Q rel rs w o
  rw [← hK]
  unfold dListH at w
  split at w
  · obtain ⟨v, rfl, rv⟩ := rpl1 rs
    obtain ⟨a, vs, xs, rfl, h1, h2, w⟩ := onQ_of rel rv w
    exact ⟨a, vs, rfl, h1, fun l hl => o.rt _ _ (.hdl st.length) _ _ (Le.new hl) (newHL rel hl h2).1 (newHL rel hl h2).2 w⟩
  · cases w
/-- tuple(..) -/
@[simp] def dTuple : D1 := fun ds st R => match ds with | [d] => onQ st d fun xs => R (.tup xs) st | _ => False
def rTuple (K : PySem.W.Frag) : List V → Hp → VK → Prop := fun xs H Q => ∃ p ys, xs = [.ref p] ∧ ((SqL K H p ys ∧ ∀ l, H l = none → Q (.ref l) (upd H l (.tup ys))) ∨ (SqT K H p ys ∧ Q (.ref p) H))
theorem call_TUPLE : CallR X (.type "tuple") (rTuple X.K) := call_tuple_of
theorem cd_tuple (hK : G.K = X.K) : CaD G (rTuple X.K) dTuple := by
  intro E W H st ds vs R xq Q rel rs w o
  rw [← hK]
  unfold dTuple at w
  split at w
  · obtain ⟨v, rfl, rv⟩ := rpl1 rs
    unfold onQ at w
    split at w
    · rename_i xs e
      obtain ⟨p, vs, h1, h2, h3⟩ := dr_lst rel rv e
      subst h1
      exact ⟨p, vs, rfl, .inl ⟨SqL.of h2, fun l hl => o.rt W _ (.tup xs) _ st (Le.fresh hl) (rel.fresh hl) (newT rel hl h3) w⟩⟩
    · rename_i xs e
      rw [dr_scr e] at rv
      obtain ⟨p, vs, h1, h2, h3⟩ := scr_sq rv
      subst h1
      exact ⟨p, vs, rfl, .inl ⟨h2, fun l hl => o.rt W _ (.tup xs) _ st (Le.fresh hl) (rel.fresh hl) (newT rel hl h3) w⟩⟩
    · rename_i xs e
      have e' := dr_tup e
      subst e'
      obtain ⟨p, vs, h1, h2, h3⟩ := tup_sq rv
      subst h1
      exact ⟨p, vs, rfl, .inr ⟨h2, o.rt W H (.tup xs) _ st Le.refl rel rv w⟩⟩
    · cases w
  · cases w
/-- int(..) of a number, of a truth value -/
@[simp] def dInt : D1 := fun ds st R => match ds with | [.int i] => R (.int i) st | [.bl k] => R (.int (if k then 1 else 0)) st | _ => False
def rInt : List V → Hp → VK → Prop := fun xs H Q => (∃ i, xs = [.int i] ∧ Q (.int i) H) ∨ ∃ k, xs = [.bl k] ∧ Q (.int (if k then 1 else 0)) H
theorem call_INT : CallR X (.type "int") rInt := call_int1
theorem cd_int : CaD G rInt dInt := by
  intro E W H st ds vs R xq Q rel rs w o
  unfold dInt at w
  split at w
  · obtain ⟨v, rfl, rv⟩ := rpl1 rs
    simp only [Rp] at rv; subst rv
    exact .inl ⟨_, rfl, o.rt W H (.int _) _ st Le.refl rel rfl w⟩
  · obtain ⟨v, rfl, rv⟩ := rpl1 rs
    simp only [Rp] at rv; subst rv
    exact .inr ⟨_, rfl, o.rt W H (.int _) _ st Le.refl rel rfl w⟩
  · cases w
/-- abs, max, min of numbers -/
@[simp] def dAbs : D1 := fun ds st R => match ds with | [.int i] => R (.int (if i < 0 then -i else i)) st | _ => False
theorem cd_abs : CaD G (fun xs H Q => ∃ i, xs = [.int i] ∧ Q (.int (if i < 0 then -i else i)) H) dAbs := by
  intro E W H st ds vs R xq Q rel rs w o
  unfold dAbs at w
  split at w
  · obtain ⟨v, rfl, rv⟩ := rpl1 rs
    simp only [Rp] at rv; subst rv
    exact ⟨_, rfl, o.rt W H (.int _) _ st Le.refl rel rfl w⟩
  · cases w
@[simp] def dII1 (g : Int → Int → D) : D1 := fun ds st R => match ds with | [.int i, .int j] => R (g i j) st | _ => False
theorem cd_ii {g : Int → Int → V} {g' : Int → Int → D} (h : ∀ W H i j, Rp G.K W H (g' i j) (g i j)) : CaD G (fun xs H Q => ∃ i j, xs = [.int i, .int j] ∧ Q (g i j) H) (dII1 g') := by
  intro E W H st ds vs R xq Q rel rs w o
  unfold dII1 at w
  split at w
  · obtain ⟨v, u, rfl, rv, ru⟩ := rpl2 rs
    simp only [Rp] at rv ru; subst rv; subst ru
    exact ⟨_, _, rfl, o.rt W H _ _ st Le.refl rel (h W H _ _) w⟩
  · cases w
@[simp] abbrev dMax2 : D1 := dII1 fun i j => .int (if j > i then j else i)
@[simp] abbrev dMin2 : D1 := dII1 fun i j => .int (if j < i then j else i)
theorem cd_max2 : CaD G (fun xs H Q => ∃ i j, xs = [.int i, .int j] ∧ Q (.int (if j > i then j else i)) H) dMax2 := cd_ii fun _ _ _ _ => rfl
theorem cd_min2 : CaD G (fun xs H Q => ∃ i j, xs = [.int i, .int j] ∧ Q (.int (if j < i then j else i)) H) dMin2 := cd_ii fun _ _ _ _ => rfl
/-- all, any of a list of truth values; sum of numbers -/
@[simp] def allB (xs : List D) : Option (List Bool) := match xs with
  | [] => some []
  | .bl b :: r => (allB r).map (b :: ·)
  | _ => none
theorem allB_rp {K : PySem.W.Frag} {W : Wd} {H : Hp} : ∀ {ds : List D} {vs : List V} {bs : List Bool}, RpL K W H ds vs → allB ds = some bs → vs = bs.map V.bl
  | [], _, bs, h, e => by simp only [RpL] at h; subst h; simp [allB] at e; subst e; rfl
  | d :: ds, vs, bs, h, e => by
    simp only [RpL] at h
    obtain ⟨v, r, rfl, h1, h2⟩ := h
    cases d with
    | bl b =>
      simp only [allB, Option.map_eq_some_iff] at e
      obtain ⟨cs, e1, rfl⟩ := e
      simp only [Rp] at h1
      rw [h1, allB_rp h2 e1]; rfl
    | _ => simp [allB] at e
@[simp] def dAll : D1 := fun ds st R => match ds with | [d] => onL st d fun xs => ∃ bs, allB xs = some bs ∧ R (.bl (bs.all id)) st | _ => False
@[simp] def dAny : D1 := fun ds st R => match ds with | [d] => onL st d fun xs => ∃ bs, allB xs = some bs ∧ R (.bl (bs.any id)) st | _ => False
theorem cd_all (hK : G.K = X.K) : CaD G (rAll X.K) dAll := by
  intro E W H st ds vs R xq Q rel rs w o
  rw [← hK]
  unfold dAll at w
  split at w
  · obtain ⟨v, rfl, rv⟩ := rpl1 rs
    obtain ⟨a, vs, xs, rfl, h1, h2, bs, e, w⟩ := onL_of rel rv w
    exact ⟨a, bs, rfl, by rw [← allB_rp h2 e]; exact h1, o.rt W H (.bl _) _ st Le.refl rel rfl w⟩
  · cases w
theorem cd_any (hK : G.K = X.K) : CaD G (rAny X.K) dAny := by
  intro E W H st ds vs R xq Q rel rs w o
  rw [← hK]
  unfold dAny at w
  split at w
  · obtain ⟨v, rfl, rv⟩ := rpl1 rs
    obtain ⟨a, vs, xs, rfl, h1, h2, bs, e, w⟩ := onL_of rel rv w
    exact ⟨a, bs, rfl, by rw [← allB_rp h2 e]; exact h1, o.rt W H (.bl _) _ st Le.refl rel rfl w⟩
  · cases w
@[simp] def allI (xs : List D) : Option (List Int) := match xs with
  | [] => some []
  | .int b :: r => (allI r).map (b :: ·)
  | _ => none
theorem allI_ints : ∀ ns : List Int, allI (ns.map D.int) = some ns
  | [] => rfl
  | n :: ns => by simp [allI, allI_ints ns]
theorem allB_bls : ∀ ns : List Bool, allB (ns.map D.bl) = some ns
  | [] => rfl
  | n :: ns => by simp [allB, allB_bls ns]
theorem allI_rp {K : PySem.W.Frag} {W : Wd} {H : Hp} : ∀ {ds : List D} {vs : List V} {bs : List Int}, RpL K W H ds vs → allI ds = some bs → vs = bs.map V.int
  | [], _, bs, h, e => by simp only [RpL] at h; subst h; simp [allI] at e; subst e; rfl
  | d :: ds, vs, bs, h, e => by
    simp only [RpL] at h
    obtain ⟨v, r, rfl, h1, h2⟩ := h
    cases d with
    | int b =>
      simp only [allI, Option.map_eq_some_iff] at e
      obtain ⟨cs, e1, rfl⟩ := e
      simp only [Rp] at h1
      rw [h1, allI_rp h2 e1]; rfl
    | _ => simp [allI] at e
@[simp] def dSum : D1 := fun ds st R => match ds with | [d] => onL st d fun xs => ∃ bs, allI xs = some bs ∧ R (.int bs.sum) st | _ => False
theorem cd_sum (hK : G.K = X.K) : CaD G (rSum X.K) dSum := by
  intro E W H st ds vs R xq Q rel rs w o
  rw [← hK]
  unfold dSum at w
  split at w
  · obtain ⟨v, rfl, rv⟩ := rpl1 rs
    obtain ⟨a, vs, xs, rfl, h1, h2, bs, e, w⟩ := onL_of rel rv w
    exact ⟨a, bs, rfl, by rw [← allI_rp h2 e]; exact h1, o.rt W H (.int _) _ st Le.refl rel rfl w⟩
  · cases w
/-- dict(d): a copy -/
@[simp] def dDict : D1 := fun ds st R => match ds with | [d] => onK st d fun _ kvs => R (.hdl st.length) (st ++ [.dK kvs]) | _ => False
def rDict : List V → Hp → VK → Prop := fun xs H Q => ∃ d kvs, xs = [.ref d] ∧ H d = some (.dK kvs) ∧ ∀ p, H p = none → Q (.ref p) (upd H p (.dK kvs))
theorem call_DICT : CallR X (.type "dict") rDict := by
  intro pins s σ H xs us Q I r h
  obtain ⟨d, kvs, rfl, e, q⟩ := h
  obtain ⟨u, rfl, rx⟩ := vals1 r
  cases (show u = Value.ref d from rx)
  exact d_copyOf I (.inl e) fun p s' hp I' => ⟨.ref p, _, I', rfl, q p hp⟩
theorem cd_dict : CaD G rDict dDict := by
  intro E W H st ds vs R xq Q rel rs w o
  unfold dDict at w
  split at w
  · obtain ⟨v, rfl, rv⟩ := rpl1 rs
    obtain ⟨j, a, kvs, vs, rfl, h1, h2, h3, w⟩ := onK_of rel rv w
    exact ⟨a, vs, rfl, h2, fun p hp => o.rt _ _ (.hdl st.length) _ _ (Le.new hp) (newHK rel hp h3).1 (newHK rel hp h3).2 w⟩
  · cases w
end
end DL

set_option Elab.async false
set_option linter.all false
set_option maxRecDepth 100000
set_option autoImplicit false
namespace DL
open PySem PySem.Spec PyProof.Rows L2

section
variable {G : Gm} {E : XK} {X : Cx}
/-! ### methods of lists -/
/-- the list at a handle -/
def onH (st : Sto) (d : D) (k : Nat → List D → Prop) : Prop := match d with
  | .hdl j => match st[j]? with | some (.lst xs) => k j xs | _ => False
  | _ => False
theorem onH_hdl {st : Sto} {j : Nat} {xs : List D} {k : Nat → List D → Prop} (h : st[j]? = some (.lst xs)) : onH st (.hdl j) k = k j xs := by
  show (match st[j]? with | some (.lst xs) => k j xs | _ => False) = _
  rw [h]
theorem onH_of {W : Wd} {H : Hp} {st : Sto} {d : D} {v : V} {k : Nat → List D → Prop} (r : Rel G W H st) (p : Rp G.K W H d v) (h : onH st d k) :
    ∃ j a xs vs, v = .ref a ∧ W.m[j]? = some a ∧ H a = some (.lst vs) ∧ RpL G.K W H xs vs ∧ k j xs := by
  unfold onH at h
  split at h
  · split at h
    · rename_i j _ xs e
      simp only [Rp] at p
      obtain ⟨a, h1, rfl⟩ := p
      obtain ⟨b, h2, vs, h3, h4⟩ := r.cell _ _ e
      rw [h1] at h2; cases h2
      exact ⟨_, a, xs, vs, rfl, h1, h3, h4, h⟩
    · cases h
  · cases h
theorem wrL {W : Wd} {H : Hp} {st : Sto} {j : Nat} {a : Addr} {xs : List D} {vs : List V} (r : Rel G W H st) (e : W.m[j]? = some a) (h : RpL G.K W H xs vs) : Rel G W (upd H a (.lst vs)) (st.set j (.lst xs)) :=
  r.write e ⟨vs, upd_same, h.le (Le.write (r.mem e))⟩
theorem wrK {W : Wd} {H : Hp} {st : Sto} {j : Nat} {a : Addr} {xs : List (Key × D)} {vs : List (Key × V)} (r : Rel G W H st) (e : W.m[j]? = some a) (h : RpK G.K W H xs vs) : Rel G W (upd H a (.dK vs)) (st.set j (.dK xs)) :=
  r.write e ⟨vs, upd_same, h.le (Le.write (r.mem e))⟩
abbrev DM := D → List D → Sto → DQ → Prop
def MeD (G : Gm) (r : V → List V → Hp → VK → Prop) (r' : DM) : Prop := ∀ (E : XK) (W : Wd) (H : Hp) (st : Sto) (dx : D) (ds : List D) (x : V) (vs : List V) (R : DQ) (xq : XQ) (Q : VK),
  Rel G W H st → Rp G.K W H dx x → RpL G.K W H ds vs → r' dx ds st R → OutE G E W H R xq Q → r x vs H Q
/-- what a method is asked of: a list -/
@[simp] def isLD (st : Sto) (d : D) : Prop := onL st d fun _ => True
theorem isLD_ty {W : Wd} {H : Hp} {st : Sto} {d : D} {v : V} (r : Rel G W H st) (p : Rp G.K W H d v) (h : isLD st d) : tyV G.K "list" v H := by
  obtain ⟨a, vs, xs, rfl, h1, _⟩ := onL_of r p h
  exact .inl ⟨rfl, _, h1⟩
@[simp] def mMe (r' : DM) (we : ME) (wa : MA) : ME := fun ρ st R xq => we ρ st (fun x st1 => isLD st1 x ∧ wa ρ st1 (fun xs st2 => r' x xs st2 R) xq) xq
@[simp] def mMe0 (r' : DM) (we : ME) : ME := fun ρ st R xq => we ρ st (fun x st1 => isLD st1 x ∧ r' x [] st1 R) xq
theorem pd_lm {o e : Expr} {es : List Expr} {we : ME} {wa : MA} {name : Str} {apos cpos : Pos} {id : String} {r : V → List V → Hp → VK → Prop} {r' : DM} (slot : PySem.Slot "list" name id) (hty : typeOf (.builtin id) = pure (.type "method_descriptor")) (hm : MtR X id r) (hd : MeD G r r') (ho : PDE G E X o we) (ha : PDA G E X (e :: es) wa)
    (hbase : attributeBase o name X.env (eval o X.env) = eval o X.env := by rfl)
    (hfew : ((backTo cpos (starEach (e :: es) X.env)).all (fun x => !x.1) && (backToKw cpos (keywordEach [] X.env)).all (fun x => x.1.isSome)
      && decide ((e :: es).length + ([] : List Keyword).length + (if ([] : List Keyword).isEmpty then 0 else 1) < 30)) = true := by rfl)
    (hline : (apos.endLine == cpos.line) = true := by rfl) (hs : starEach (e :: es) X.env = (false, eval e X.env) :: starEach es X.env := by rfl) (hplain : (backTo cpos (starEach es X.env)).any (·.1) = false := by rfl) (hK : G.K = X.K := by rfl) :
    PDE G E X (.Call (.Attribute o name apos) (e :: es) [] cpos) (mMe r' we wa) :=
  PE.weak (pe_bm PySem.F.plainAttrs_list slot hty hm ho ha hbase hfew hline hs hplain) fun σ H Q ⟨W, ρ, st, R, xq, rel, re, w, o⟩ =>
    ⟨W, ρ, st, _, xq, rel, re, w, ⟨fun W1 H1 dx x st1 l1 rel1 rx w1 =>
      ⟨by rw [← hK]; exact isLD_ty rel1 rx w1.1, W1, ρ, st1, _, xq, rel1, re.le l1, w1.2, ⟨fun W2 H2 ds vs st2 l2 rel2 rvs w2 =>
        hd E W2 H2 st2 dx ds x vs R xq Q rel2 (rx.le l2) rvs w2 (o.le (l1.trans l2)), (o.le l1).xq⟩⟩, o.xq⟩⟩
theorem pd_lm0 {o : Expr} {we : ME} {name : Str} {apos cpos : Pos} {id : String} {r : V → List V → Hp → VK → Prop} {r' : DM} (slot : PySem.Slot "list" name id) (hty : typeOf (.builtin id) = pure (.type "method_descriptor")) (hm : MtR X id r) (hd : MeD G r r') (ho : PDE G E X o we)
    (hbase : attributeBase o name X.env (eval o X.env) = eval o X.env := by rfl) (hline : (apos.endLine == cpos.line) = true := by rfl) (hK : G.K = X.K := by rfl) : PDE G E X (.Call (.Attribute o name apos) [] [] cpos) (mMe0 r' we) :=
  PE.weak (pe_bm0 PySem.F.plainAttrs_list slot hty hm ho hbase hline) fun σ H Q ⟨W, ρ, st, R, xq, rel, re, w, o⟩ =>
    ⟨W, ρ, st, _, xq, rel, re, w, ⟨fun W1 H1 dx x st1 l1 rel1 rx w1 =>
      ⟨by rw [← hK]; exact isLD_ty rel1 rx w1.1, hd E W1 H1 st1 dx [] x [] R xq Q rel1 rx RpL.nil w1.2 (o.le l1)⟩, o.xq⟩⟩
@[simp] def dApp : DM := fun x ds st R => match ds with | [y] => onH st x fun j xs => xs.length < sizeLine ∧ R .non (st.set j (.lst (xs ++ [y]))) | _ => False
theorem md_app : MeD G rAppend dApp := by
  intro E W H st dx ds x vs R xq Q rel rx rs w o
  unfold dApp at w
  split at w
  · obtain ⟨v, rfl, rv⟩ := rpl1 rs
    obtain ⟨j, a, xs, us, rfl, h1, h2, h3, h4, w⟩ := onH_of rel rx w
    exact ⟨a, us, v, rfl, rfl, h2, by rw [h3.length]; exact h4, o.rt W _ .non _ _ (Le.write (rel.mem h1)) (wrL rel h1 (h3.append (.one rv))) rfl w⟩
  · cases w
@[simp] def dExt : DM := fun x ds st R => match ds with | [y] => onH st x fun j xs => (match dr st y with | .lst ys => xs.length + ys.length ≤ sizeLine ∧ R .non (st.set j (.lst (xs ++ ys))) | _ => False) | _ => False
theorem md_ext : MeD G rExtend dExt := by
  intro E W H st dx ds x vs R xq Q rel rx rs w o
  unfold dExt at w
  split at w
  · obtain ⟨v, rfl, rv⟩ := rpl1 rs
    obtain ⟨j, a, xs, us, rfl, h1, h2, h3, w⟩ := onH_of rel rx w
    split at w
    · rename_i ys e
      obtain ⟨b, zs, rfl, h5, h6⟩ := dr_lst rel rv e
      exact ⟨a, b, us, zs, rfl, rfl, h2, h5, by rw [h3.length, h6.length]; exact w.1, o.rt W _ .non _ _ (Le.write (rel.mem h1)) (wrL rel h1 (h3.append h6)) rfl w.2⟩
    · cases w
  · cases w
@[simp] def dPop0 : DM := fun x ds st R => match ds with | [] => onH st x fun j xs => ∃ d, xs[xs.length - 1]? = some d ∧ R d (st.set j (.lst xs.dropLast)) | _ => False
theorem md_pop0 : MeD G rPop dPop0 := by
  intro E W H st dx ds x vs R xq Q rel rx rs w o
  unfold dPop0 at w
  split at w
  · simp only [RpL] at rs
    obtain ⟨j, a, xs, us, rfl, h1, h2, h3, d, h4, w⟩ := onH_of rel rx w
    obtain ⟨v, h5, h6⟩ := h3.get h4
    refine ⟨a, us, v, rfl, rs, h2, by rw [h3.length]; exact h5, ?_⟩
    have l := Le.write (H := H) (o := HO.lst us.dropLast) (rel.mem h1)
    refine o.rt W _ d v _ l (wrL rel h1 ?_) (h6.le l) w
    rw [List.dropLast_eq_take, List.dropLast_eq_take, h3.length]
    exact h3.take _
  · cases w
@[simp] def dPopAt : DM := fun x ds st R => match ds with | [.int i] => onH st x fun j xs => ∃ k d, seqIndex? i xs.length = some k ∧ xs[k]? = some d ∧ -(2 ^ 63) ≤ i ∧ i < 2 ^ 63 ∧ R d (st.set j (.lst (xs.eraseIdx k))) | _ => False
theorem md_popAt : MeD G rPopAt dPopAt := by
  intro E W H st dx ds x vs R xq Q rel rx rs w o
  unfold dPopAt at w
  split at w
  · obtain ⟨v, rfl, rv⟩ := rpl1 rs
    simp only [Rp] at rv; subst rv
    obtain ⟨j, a, xs, us, rfl, h1, h2, h3, k, d, h4, h5, h6, h7, w⟩ := onH_of rel rx w
    obtain ⟨v, h8, h9⟩ := h3.get h5
    refine ⟨a, us, _, k, v, rfl, rfl, h2, h6, h7, by rw [h3.length]; exact h4, h8, ?_⟩
    have l := Le.write (H := H) (o := HO.lst (us.eraseIdx k)) (rel.mem h1)
    exact o.rt W _ d v _ l (wrL rel h1 (h3.eraseIdx k)) (h9.le l) w
  · cases w
def rInsert : V → List V → Hp → VK → Prop := fun x vs H Q => ∃ (l : Addr) (xs : List V) (i : Int) (y : V), x = .ref l ∧ vs = [.int i, y] ∧ H l = some (.lst xs) ∧ xs.length < sizeLine ∧ 0 ≤ i ∧ i < 2 ^ 63 ∧
    Q .non (upd H l (.lst (xs.take i.toNat ++ [y] ++ xs.drop i.toNat)))
theorem mt_INSERT : MtR X "list.insert" rInsert := mt_insert
@[simp] def dIns : DM := fun x ds st R => match ds with | [.int i, y] => onH st x fun j xs => xs.length < sizeLine ∧ 0 ≤ i ∧ i < 2 ^ 63 ∧ R .non (st.set j (.lst (xs.take i.toNat ++ [y] ++ xs.drop i.toNat))) | _ => False
theorem md_ins : MeD G rInsert dIns := by
  intro E W H st dx ds x vs R xq Q rel rx rs w o
  unfold dIns at w
  split at w
  · obtain ⟨v, u, rfl, rv, ru⟩ := rpl2 rs
    simp only [Rp] at rv; subst rv
    obtain ⟨j, a, xs, us, rfl, h1, h2, h3, h4, h5, h6, w⟩ := onH_of rel rx w
    exact ⟨a, us, _, u, rfl, rfl, h2, by rw [h3.length]; exact h4, h5, h6, o.rt W _ .non _ _ (Le.write (rel.mem h1)) (wrL rel h1 (((h3.take _).append (.one ru)).append (h3.drop _))) rfl w⟩
  · cases w
@[simp] def dClr : DM := fun x ds st R => match ds with | [] => onH st x fun j xs => R .non (st.set j (.lst [])) | _ => False
theorem md_clr : MeD G rClear dClr := by
  intro E W H st dx ds x vs R xq Q rel rx rs w o
  unfold dClr at w
  split at w
  · simp only [RpL] at rs
    obtain ⟨j, a, xs, us, rfl, h1, h2, h3, w⟩ := onH_of rel rx w
    exact ⟨a, us, rfl, rs, h2, o.rt W _ .non _ _ (Le.write (rel.mem h1)) (wrL rel h1 RpL.nil) rfl w⟩
  · cases w

/-! ### methods of dicts -/
@[simp] def isKD (st : Sto) (d : D) : Prop := onK st d fun _ _ => True
theorem isKD_is {W : Wd} {H : Hp} {st : Sto} {d : D} {v : V} (r : Rel G W H st) (p : Rp G.K W H d v) (h : isKD st d) : ∃ a, v = .ref a ∧ IsD H a := by
  obtain ⟨j, a, kvs, vs, rfl, _, h1, _⟩ := onK_of r p h
  exact ⟨a, rfl, .inl ⟨_, .inl h1⟩⟩
@[simp] def mGet1 (we wk : ME) : ME := fun ρ st R xq => we ρ st (fun x st1 => isKD st1 x ∧ wk ρ st1 (fun k st2 => onK st2 x fun _ kvs => ∃ key, toK k = some key ∧ R ((valD kvs key).getD .non) st2) xq) xq
@[simp] def mGet2 (we wk wd : ME) : ME := fun ρ st R xq => we ρ st (fun x st1 => isKD st1 x ∧ wk ρ st1 (fun k st2 => wd ρ st2 (fun z st3 => onK st3 x fun _ kvs => ∃ key, toK k = some key ∧ R ((valD kvs key).getD z) st3) xq) xq) xq
@[simp] def mSetd (we wk wd : ME) : ME := fun ρ st R xq => we ρ st (fun x st1 => isKD st1 x ∧ wk ρ st1 (fun k st2 => wd ρ st2 (fun z st3 => onK st3 x fun j kvs => kvs.length < sizeLine ∧ ∃ key, toK k = some key ∧
  (match valD kvs key with | some d => R d st3 | none => R z (st3.set j (.dK (putD kvs key z))))) xq) xq) xq
@[simp] def mDPop1 (we wk : ME) : ME := fun ρ st R xq => we ρ st (fun x st1 => isKD st1 x ∧ wk ρ st1 (fun k st2 => onK st2 x fun j kvs => ∃ key d, toK k = some key ∧ valD kvs key = some d ∧ R d (st2.set j (.dK (dropD kvs key)))) xq) xq
theorem pd_get1 {o e : Expr} {we wk : ME} {apos cpos : Pos} (hu : X.A.units + 1 < cLine) (ho : PDE G E X o we) (he : PDE G E X e wk) (m : M1 X o "get" apos e cpos := by exact ⟨rfl, rfl, rfl, rfl⟩) : PDE G E X (.Call (.Attribute o "get" apos) [e] [] cpos) (mGet1 we wk) :=
  PE.weak (pe_dget1 hu ho he m) fun σ H Q ⟨W, ρ, st, R, xq, rel, re, w, o⟩ =>
    ⟨W, ρ, st, _, xq, rel, re, w, ⟨fun W1 H1 dx x st1 l1 rel1 rx w1 => by
      obtain ⟨a, rfl, isd⟩ := isKD_is rel1 rx w1.1
      refine ⟨a, rfl, isd, W1, ρ, st1, _, xq, rel1, re.le l1, w1.2, ⟨fun W2 H2 dk k st2 l2 rel2 rk w2 => ?_, (o.le l1).xq⟩⟩
      obtain ⟨j, b, kvs, vs, e0, h1, h2, h3, key, e1, w2⟩ := onK_of rel2 (rx.le l2) w2
      cases e0
      obtain rfl := toK_of rk e1
      refine ⟨valV vs key, DGet.k h2, ?_⟩
      rcases h3.val key with ⟨d', v, q1, q2, q3⟩ | ⟨q1, q2⟩
      · rw [q1] at w2; rw [q2]; exact o.rt W2 H2 d' v st2 (l1.trans l2) rel2 q3 w2
      · rw [q1] at w2; rw [q2]; exact o.rt W2 H2 .non .non st2 (l1.trans l2) rel2 rfl w2, o.xq⟩⟩
theorem pd_get2 {o e f : Expr} {we wk wd : ME} {apos cpos : Pos} (hu : X.A.units + 1 < cLine) (ho : PDE G E X o we) (he : PDE G E X e wk) (hf : PDE G E X f wd) (m : M2 X o "get" apos e f cpos := by exact ⟨rfl, rfl, rfl, rfl⟩) : PDE G E X (.Call (.Attribute o "get" apos) [e, f] [] cpos) (mGet2 we wk wd) :=
  PE.weak (pe_dget2 hu ho he hf m) fun σ H Q ⟨W, ρ, st, R, xq, rel, re, w, o⟩ =>
    ⟨W, ρ, st, _, xq, rel, re, w, ⟨fun W1 H1 dx x st1 l1 rel1 rx w1 => by
      obtain ⟨a, rfl, isd⟩ := isKD_is rel1 rx w1.1
      refine ⟨a, rfl, isd, W1, ρ, st1, _, xq, rel1, re.le l1, w1.2, ⟨fun W2 H2 dk k st2 l2 rel2 rk w2 => ?_, (o.le l1).xq⟩⟩
      refine ⟨W2, ρ, st2, _, xq, rel2, re.le (l1.trans l2), w2, ⟨fun W3 H3 dz z st3 l3 rel3 rz w3 => ?_, (o.le (l1.trans l2)).xq⟩⟩
      obtain ⟨j, b, kvs, vs, e0, h1, h2, h3, key, e1, w3⟩ := onK_of rel3 (rx.le (l2.trans l3)) w3
      cases e0
      obtain rfl := toK_of rk e1
      refine ⟨valV vs key, DGet.k h2, ?_⟩
      rcases h3.val key with ⟨d', v, q1, q2, q3⟩ | ⟨q1, q2⟩
      · rw [q1] at w3; rw [q2]; exact o.rt W3 H3 d' v st3 (l1.trans (l2.trans l3)) rel3 q3 w3
      · rw [q1] at w3; rw [q2]; exact o.rt W3 H3 dz z st3 (l1.trans (l2.trans l3)) rel3 rz w3, o.xq⟩⟩
theorem pd_dpop1 {o e : Expr} {we wk : ME} {apos cpos : Pos} (ho : PDE G E X o we) (he : PDE G E X e wk) (m : M1 X o "pop" apos e cpos := by exact ⟨rfl, rfl, rfl, rfl⟩) : PDE G E X (.Call (.Attribute o "pop" apos) [e] [] cpos) (mDPop1 we wk) :=
  PE.weak (pe_dpop1 ho he m) fun σ H Q ⟨W, ρ, st, R, xq, rel, re, w, o⟩ =>
    ⟨W, ρ, st, _, xq, rel, re, w, ⟨fun W1 H1 dx x st1 l1 rel1 rx w1 => by
      obtain ⟨a, rfl, isd⟩ := isKD_is rel1 rx w1.1
      refine ⟨a, rfl, isd, W1, ρ, st1, _, xq, rel1, re.le l1, w1.2, ⟨fun W2 H2 dk k st2 l2 rel2 rk w2 => ?_, (o.le l1).xq⟩⟩
      obtain ⟨j, b, kvs, vs, e0, h1, h2, h3, key, d, e1, e2, w2⟩ := onK_of rel2 (rx.le l2) w2
      cases e0
      obtain rfl := toK_of rk e1
      rcases h3.val key with ⟨d', v, q1, q2, q3⟩ | ⟨q1, q2⟩
      · rw [q1] at e2; cases e2
        have l := Le.write (H := H2) (o := HO.dK (dropK vs key)) (rel2.mem h1)
        exact ⟨vs, key, v, h2, rfl, q2, o.rt W2 _ d v _ (l1.trans (l2.trans l)) (wrK rel2 h1 h3.drop) (q3.le l) w2⟩
      · rw [q1] at e2; exact (nomatch e2), o.xq⟩⟩
theorem pd_setd {o e f : Expr} {we wk wd : ME} {apos cpos : Pos} (ho : PDE G E X o we) (he : PDE G E X e wk) (hf : PDE G E X f wd) (m : M2 X o "setdefault" apos e f cpos := by exact ⟨rfl, rfl, rfl, rfl⟩) : PDE G E X (.Call (.Attribute o "setdefault" apos) [e, f] [] cpos) (mSetd we wk wd) :=
  PE.weak (pe_dsetd ho he hf m) fun σ H Q ⟨W, ρ, st, R, xq, rel, re, w, o⟩ =>
    ⟨W, ρ, st, _, xq, rel, re, w, ⟨fun W1 H1 dx x st1 l1 rel1 rx w1 => by
      obtain ⟨a, rfl, isd⟩ := isKD_is rel1 rx w1.1
      refine ⟨a, rfl, isd, W1, ρ, st1, _, xq, rel1, re.le l1, w1.2, ⟨fun W2 H2 dk k st2 l2 rel2 rk w2 => ?_, (o.le l1).xq⟩⟩
      refine ⟨W2, ρ, st2, _, xq, rel2, re.le (l1.trans l2), w2, ⟨fun W3 H3 dz z st3 l3 rel3 rz w3 => ?_, (o.le (l1.trans l2)).xq⟩⟩
      obtain ⟨j, b, kvs, vs, e0, h1, h2, h3, hl, key, e1, w3⟩ := onK_of rel3 (rx.le (l2.trans l3)) w3
      cases e0
      obtain rfl := toK_of (rk.le l3) e1
      have l := l1.trans (l2.trans l3)
      refine ⟨vs, key, h2, rfl, by rw [h3.length]; exact hl, fun v hv => ?_, fun hn => ?_⟩
      · rcases h3.val key with ⟨d', v', q1, q2, q3⟩ | ⟨q1, q2⟩
        · rw [q1] at w3; rw [q2] at hv; cases hv; exact o.rt W3 H3 d' v st3 l rel3 q3 w3
        · rw [q2] at hv; cases hv
      · rcases h3.val key with ⟨d', v', q1, q2, q3⟩ | ⟨q1, q2⟩
        · rw [q2] at hn; cases hn
        · rw [q1] at w3
          have l4 := Le.write (H := H3) (o := HO.dK (putK vs key z)) (rel3.mem h1)
          exact o.rt W3 _ dz z _ (l.trans l4) (wrK rel3 h1 (h3.put rz)) (rz.le l4) w3, o.xq⟩⟩
end
end DL

set_option Elab.async false
set_option linter.all false
set_option maxRecDepth 100000
set_option autoImplicit false
namespace DL
open PySem PySem.Spec PyProof.Rows L2

/-! ## instances -/
@[simp] def fldN (fs : List (Nat × D)) (n : Nat) : Option D := match fs with
  | [] => none
  | (m, d) :: r => if m = n then some d else fldN r n
@[simp] def putN (n : Nat) (d : D) : List (Nat × D) → List (Nat × D)
  | [] => [(n, d)]
  | (m, e) :: r => if m = n then (m, d) :: r else (m, e) :: putN n d r
section
variable {K : PySem.W.Frag} {W : Wd} {H : Hp} {N : List Str}
theorem nodup_ix' {N : List Str} (hN : N.Nodup) {i j : Nat} {x : Str} (a : N[i]? = some x) (b : N[j]? = some x) : i = j := L2.nodup_ix hN a b
theorem RpF.look (hN : N.Nodup) {n : Nat} {x : Str} (hx : N[n]? = some x) : ∀ {fs : List (Nat × D)} {vs : List (Str × V)} {d : D}, RpF K W H N fs vs → fldN fs n = some d → ∃ v, vs.lookup x = some v ∧ Rp K W H d v
  | [], _, _, _, e => by simp [fldN] at e
  | (m, d0) :: fs, vs, d, h, e => by
    simp only [RpF] at h
    obtain ⟨y, v, r, rfl, h1, h2, h3⟩ := h
    unfold fldN at e
    by_cases q : m = n
    · subst q
      rw [if_pos rfl] at e; cases e
      rw [hx] at h1; cases h1
      exact ⟨v, by simp [List.lookup], h2⟩
    · rw [if_neg q] at e
      obtain ⟨u, h4, h5⟩ := RpF.look hN hx h3 e
      have ne : (x == y) = false := beq_eq_false_iff_ne.mpr fun z => q (L2.nodup_ix hN h1 (z ▸ hx))
      exact ⟨u, by simp only [List.lookup, ne]; exact h4, h5⟩
theorem RpF.no {x : Str} (hx : x ∉ N) : ∀ {fs : List (Nat × D)} {vs : List (Str × V)}, RpF K W H N fs vs → vs.lookup x = none
  | [], _, h => by simp only [RpF] at h; subst h; rfl
  | (m, d0) :: fs, vs, h => by
    simp only [RpF] at h
    obtain ⟨y, v, r, rfl, h1, h2, h3⟩ := h
    have ne : (x == y) = false := beq_eq_false_iff_ne.mpr fun z => hx (z ▸ List.mem_of_getElem? h1)
    simp only [List.lookup, ne]
    exact RpF.no hx h3
theorem RpF.put (hN : N.Nodup) {n : Nat} {x : Str} (hx : N[n]? = some x) {d : D} {v : V} (hd : Rp K W H d v) : ∀ {fs : List (Nat × D)} {vs : List (Str × V)}, RpF K W H N fs vs → RpF K W H N (putN n d fs) (putF x v vs)
  | [], _, h => by
    simp only [RpF] at h; subst h
    exact ⟨x, v, [], rfl, hx, hd, rfl⟩
  | (m, d0) :: fs, vs, h => by
    simp only [RpF] at h
    obtain ⟨y, u, r, rfl, h1, h2, h3⟩ := h
    unfold putN putF
    by_cases q : m = n
    · subst q
      rw [hx] at h1; cases h1
      rw [if_pos rfl, if_pos rfl]
      exact ⟨_, v, r, rfl, hx, hd, h3⟩
    · have ne : ¬ y = x := fun z => q (L2.nodup_ix hN h1 (by rw [z]; exact hx))
      rw [if_neg q, if_neg ne]
      exact ⟨y, u, _, rfl, h1, h2, RpF.put hN hx hd h3⟩
theorem RpF.length : ∀ {fs : List (Nat × D)} {vs : List (Str × V)}, RpF K W H N fs vs → vs.length = fs.length
  | [], _, h => by simp only [RpF] at h; subst h; rfl
  | (m, d0) :: fs, vs, h => by
    simp only [RpF] at h
    obtain ⟨y, v, r, rfl, h1, h2, h3⟩ := h
    simp [RpF.length h3]
end
/-- the instance of the class at C -/
def onO (st : Sto) (d : D) (C : Addr) (k : Nat → List (Nat × D) → Prop) : Prop := match d with
  | .hdl j => match st[j]? with | some (.ins C' fs) => C' = C ∧ k j fs | _ => False
  | _ => False
theorem onO_hdl {st : Sto} {j : Nat} {C : Addr} {fs : List (Nat × D)} {k : Nat → List (Nat × D) → Prop} (h : st[j]? = some (.ins C fs)) : onO st (.hdl j) C k = k j fs := by
  show (match st[j]? with | some (.ins C' fs) => C' = C ∧ k j fs | _ => False) = _
  rw [h]; simp
theorem onO_of {G : Gm} {W : Wd} {H : Hp} {st : Sto} {d : D} {v : V} {C : Addr} {k : Nat → List (Nat × D) → Prop} (r : Rel G W H st) (p : Rp G.K W H d v) (h : onO st d C k) :
    ∃ j a dx fs vs, v = .ref a ∧ W.m[j]? = some a ∧ H a = some (.ins C dx vs) ∧ RpF G.K W H (G.Γ C) fs vs ∧ k j fs := by
  unfold onO at h
  split at h
  · split at h
    · rename_i j _ C' fs e
      obtain ⟨rfl, h⟩ := h
      simp only [Rp] at p
      obtain ⟨a, h1, rfl⟩ := p
      obtain ⟨b, h2, dx, vs, h3, h4⟩ := r.cell _ _ e
      rw [h1] at h2; cases h2
      exact ⟨_, a, dx, fs, vs, rfl, h1, h3, h4, h⟩
    · cases h
  · cases h
/-- what is known of a class of the text -/
structure ClsD (G : Gm) (C : Addr) (N : List Str) : Prop where
  cl : Cls G.K C
  Γ : G.Γ C = N
  nd : N.Nodup
  no : ∀ f ∈ N, NoAttr G.K C f
section
variable {G : Gm} {E : XK} {X : Cx}
@[simp] def mFld (C : Addr) (n : Nat) (we : ME) : ME := fun ρ st R xq => we ρ st (fun x st1 => onO st1 x C fun _ fs => ∃ d, fldN fs n = some d ∧ R d st1) xq
theorem pd_fld {C : Addr} {N : List Str} {e : Expr} {we : ME} {f : Str} {pos : Pos} (T : ClsD G C N) (n : Nat) (he : PDE G E X e we) (hf : N[n]? = some f := by rfl) (hb : attributeBase e f X.env (eval e X.env) = eval e X.env := by rfl) (hK : G.K = X.K := by rfl) : PDE G E X (.Attribute e f pos) (mFld C n we) :=
  PE.weak (pe_fld he hb) fun σ H Q ⟨W, ρ, st, R, xq, rel, re, w, o⟩ =>
    ⟨W, ρ, st, _, xq, rel, re, w, ⟨fun W1 H1 dx x st1 l1 rel1 rx w1 => by
      obtain ⟨j, a, dd, fs, vs, rfl, h1, h2, h3, d, e1, w1⟩ := onO_of rel1 rx w1
      rw [T.Γ] at h3
      obtain ⟨v, h4, h5⟩ := h3.look T.nd hf e1
      rw [← hK]
      exact ⟨a, C, dd, vs, v, rfl, h2, T.cl, T.no f (List.mem_of_getElem? hf), h4, o.rt W1 H1 d v st1 l1 rel1 h5 w1⟩, o.xq⟩⟩
@[simp] def sSetFld (C : Addr) (n : Nat) (we wv : ME) : MS := fun e ρ st => wv ρ st (fun y st1 => we ρ st1 (fun x st2 => onO st2 x C fun j fs => fs.length < 1000 ∧ e.nx ρ (st2.set j (.ins C (putN n y fs)))) e.xq) e.xq
theorem wrO {W : Wd} {H : Hp} {st : Sto} {j : Nat} {a C dx : Addr} {fs : List (Nat × D)} {vs : List (Str × V)} (r : Rel G W H st) (e : W.m[j]? = some a) (h : RpF G.K W H (G.Γ C) fs vs) : Rel G W (upd H a (.ins C dx vs)) (st.set j (.ins C fs)) :=
  r.write e ⟨dx, vs, upd_same, h.le (Le.write (r.mem e))⟩
theorem sd_fld {C : Addr} {N : List Str} {o v : Expr} {we wv : ME} {f : Str} {pos pos' : Pos} (T : ClsD G C N) (n : Nat) (ho : PDE G E X o we) (hv : PDE G E X v wv) (hf : N[n]? = some f := by rfl) (hs : swapsWith v (some (.Attribute o f pos')) pos.line X.env = pure false := by rfl) (hK : G.K = X.K := by rfl) : PDS G E X (.Assign [.Attribute o f pos'] v pos) (sSetFld C n we wv) :=
  PS.weak (ps_fld ho hv hs) fun Dn σ H ⟨W, ρ, st, e, rel, re, w, o⟩ =>
    ⟨W, ρ, st, _, e.xq, rel, re, w, ⟨fun W1 H1 dy y st1 l1 rel1 ry w1 =>
      ⟨W1, ρ, st1, _, e.xq, rel1, re.le l1, w1, ⟨fun W2 H2 dx x st2 l2 rel2 rx w2 => by
        obtain ⟨j, a, dd, fs, vs, rfl, h1, h2, h3, hl, w2⟩ := onO_of rel2 rx w2
        have h3' := h3
        rw [T.Γ] at h3'
        rw [← hK]
        refine ⟨a, C, dd, vs, rfl, h2, T.cl, T.no f (List.mem_of_getElem? hf), by rw [h3.length]; exact hl, ?_⟩
        have l3 := Le.write (H := H2) (o := HO.ins C dd (putF f y vs)) (rel2.mem h1)
        refine o.nx W2 _ ρ σ _ (l1.trans (l2.trans l3)) (wrO rel2 h1 ?_) (re.le (l1.trans (l2.trans l3))) w2
        rw [T.Γ]
        exact h3'.put T.nd hf (ry.le l2), (o.le l1).xq⟩⟩, o.xq⟩⟩
/-- o.f += e, numbers -/
@[simp] def sAugFld (C : Addr) (n : Nat) (g : Int → Int → Int) (we wv : ME) : MS := fun e ρ st => we ρ st (fun x st1 => onO st1 x C fun _ fs => ∃ d, fldN fs n = some d ∧ wv ρ st1 (fun y st2 => onI d fun i => onI y fun j => onO st2 x C fun k fs' => fs'.length < 1000 ∧ e.nx ρ (st2.set k (.ins C (putN n (.int (g i j)) fs')))) e.xq) e.xq
def rII (g : Int → Int → Int) : V → V → Hp → VK → Prop := fun x y H Q => ∃ i j, x = .int i ∧ y = .int j ∧ Q (.int (g i j)) H
theorem sd_augFld {C : Addr} {N : List Str} {o v : Expr} {we wv : ME} {f : Str} {op : Operator} {g : Int → Int → Int} {pos tpos : Pos} (T : ClsD G C N) (n : Nat) (hop : InOp X op (rII g)) (ho : PDE G E X o we) (hv : PDE G E X v wv) (hf : N[n]? = some f := by rfl) (hK : G.K = X.K := by rfl) : PDS G E X (.AugAssign (.Attribute o f tpos) op v pos) (sAugFld C n g we wv) :=
  PS.weak (ps_fldaug ho hv hop) fun Dn σ H ⟨W, ρ, st, e, rel, re, w, o⟩ =>
    ⟨W, ρ, st, _, e.xq, rel, re, w, ⟨fun W1 H1 dx x st1 l1 rel1 rx w1 => by
      obtain ⟨j, a, dd, fs, vs, rfl, h1, h2, h3, d, e1, w1⟩ := onO_of rel1 rx w1
      rw [T.Γ] at h3
      obtain ⟨v, h4, h5⟩ := h3.look T.nd hf e1
      rw [← hK]
      refine ⟨a, C, dd, vs, v, rfl, h2, T.cl, T.no f (List.mem_of_getElem? hf), h4, W1, ρ, st1, _, e.xq, rel1, re.le l1, w1, ⟨fun W2 H2 dy y st2 l2 rel2 ry w2 => ?_, (o.le l1).xq⟩⟩
      obtain ⟨i, rfl, w2⟩ := onI_of (h5.le l2) w2
      obtain ⟨k, rfl, w2⟩ := onI_of ry w2
      obtain ⟨j', a', dd', fs', vs', e0, h6, h7, h8, hl, w2⟩ := onO_of rel2 (rx.le l2) w2
      cases e0
      refine ⟨i, k, rfl, rfl, dd', vs', h7, by rw [h8.length]; exact hl, ?_⟩
      have l3 := Le.write (H := H2) (o := HO.ins C dd' (putF f (.int (g i k)) vs')) (rel2.mem h6)
      have h8' := h8
      rw [T.Γ] at h8'
      refine o.nx W2 _ ρ σ _ (l1.trans (l2.trans l3)) (wrO rel2 h6 ?_) (re.le (l1.trans (l2.trans l3))) w2
      rw [T.Γ]
      exact h8'.put T.nd hf (d := D.int (g i k)) (v := V.int (g i k)) (by simp only [Rp]), o.xq⟩⟩

/-! ## calls of the text's own defs -/
abbrev DSp := List D → Sto → DQ → XQ → Prop
def spD (G : Gm) (dsp : DSp) : Sp := fun vs H Q E => ∃ W ds st R xq, Rel G W H st ∧ RpL G.K W H ds vs ∧ dsp ds st R xq ∧ OutE G E W H R xq Q
def FnD (P : Program) (w : World) (G : Gm) (mg : Str → Option Value) (base : Heap) (CX : CXT) (k : Nat) (f : Addr) (fd : FuncData) (ps : List Str) (dsp : DSp) : Prop := FnOk P w G.K mg base CX k f fd ps (spD G dsp)
@[simp] def mCall (dsp : DSp) (w : MA) : ME := fun ρ st R xq => w ρ st (fun ds st1 => dsp ds st1 R xq) xq
theorem passA {X : Cx} {E : XK} : Passes CX0 X E := fun _ _ _ _ _ _ _ h => h.elim
theorem pd_call {CX : CXT} {k : Nat} {f : Addr} {fd : FuncData} {ps : List Str} {dsp : DSp} {x : Str} {p pos : Pos} {e : Expr} {es : List Expr} {w : MA} (F : FnD X.prog X.w G X.mg X.base CX k f fd ps dsp) (hm : X.mg x = some (.ref f)) (hk : PySem.W.keepIn G.K (.ref f) = true) (hb : Binds G.K fd ps []) (hx : Passes CX X E) (hr : Room k X.A)
    (ha : PDA G E X (e :: es) w) (hg : Gl X x := by rfl) (hdb : (x == ("__debug__" : Str)) = false := by decide) (he : starEach (e :: es) X.env = (false, eval e X.env) :: starEach es X.env := by rfl) (hpl : (backTo pos (starEach es X.env)).any (·.1) = false := by rfl) (hK : G.K = X.K := by rfl) :
    PDE G E X (.Call (.Name x p) (e :: es) [] pos) (mCall dsp w) := by
  unfold FnD at F
  rw [hK] at F hk hb
  exact PE.weak (pe_call F hr hg hm hk hb .nil hx ha hdb he hpl) fun σ H Q ⟨W, ρ, st, R, xq, rel, re, w, o⟩ =>
    ⟨W, ρ, st, _, xq, rel, re, w, ⟨fun W1 H1 ds vs st1 l1 rel1 rv w1 => ⟨W1, ds, st1, R, xq, rel1, by rw [List.append_nil]; exact rv, w1, o.le l1⟩, o.xq⟩⟩
theorem pd_call0 {CX : CXT} {k : Nat} {f : Addr} {fd : FuncData} {ps : List Str} {dsp : DSp} {x : Str} {p pos : Pos} (F : FnD X.prog X.w G X.mg X.base CX k f fd ps dsp) (hm : X.mg x = some (.ref f)) (hk : PySem.W.keepIn G.K (.ref f) = true) (hb : Binds G.K fd ps []) (hx : Passes CX X E) (hr : Room k X.A)
    (hg : Gl X x := by rfl) (hdb : (x == ("__debug__" : Str)) = false := by decide) (hK : G.K = X.K := by rfl) :
    PDE G E X (.Call (.Name x p) [] [] pos) (mCall dsp maNil) := by
  unfold FnD at F
  rw [hK] at F hk hb
  exact PE.weak (pe_call0 F hr hg hm hk hb .nil hx hdb) fun σ H Q ⟨W, ρ, st, R, xq, rel, re, w, o⟩ => ⟨W, [], st, R, xq, rel, RpL.nil, w, o⟩
@[simp] def mMeth (C : Addr) (dsp : DSp) (we : ME) (wa : MA) : ME := fun ρ st R xq => we ρ st (fun x st1 => (onO st1 x C fun _ _ => True) ∧ wa ρ st1 (fun ds st2 => dsp (x :: ds) st2 R xq) xq) xq
theorem pd_meth {CX : CXT} {k : Nat} {f C : Addr} {N : List Str} {fd : FuncData} {ps : List Str} {dsp : DSp} {m : Str} {o e : Expr} {es : List Expr} {we : ME} {wa : MA} {pos apos : Pos} {pl : Sem Bool} (T : ClsD G C N) (hn : m ∉ N) (hm : Meth G.K C m f) (F : FnD X.prog X.w G X.mg X.base CX k f fd ps dsp) (hb : Binds G.K fd ps []) (hx : Passes CX X E) (hr : Room k X.A)
    (ho : PDE G E X o we) (ha : PDA G E X (e :: es) wa)
    (hst : starEach (e :: es) X.env = (false, eval e X.env) :: starEach es X.env := by rfl) (hpl : (backTo pos (starEach es X.env)).any (·.1) = false := by rfl)
    (ht : eval (.Call (.Attribute o m apos) (e :: es) [] pos) X.env = (do
      let ov ← eval o X.env
      standAt apos.atName
      let (f, first) ← holding [ov] (getMethod ov m pl)
      callWith pos f first (backTo pos (starEach (e :: es) X.env)) (backToKw pos (keywordEach [] X.env))) := by rfl) (hK : G.K = X.K := by rfl) :
    PDE G E X (.Call (.Attribute o m apos) (e :: es) [] pos) (mMeth C dsp we wa) := by
  unfold FnD at F
  have hc := T.cl
  rw [hK] at F hm hb hc
  exact PE.weak (pe_meth (pl := pl) ho hc hm F hr hb .nil hx ha hst hpl ht) fun σ H Q ⟨W, ρ, st, R, xq, rel, re, w, o⟩ =>
    ⟨W, ρ, st, _, xq, rel, re, w, ⟨fun W1 H1 dx x st1 l1 rel1 rx w1 => by
      obtain ⟨j, a, dd, fs, vs, rfl, h1, h2, h3, _⟩ := onO_of rel1 rx w1.1
      rw [T.Γ] at h3
      exact ⟨a, dd, vs, rfl, h2, h3.no hn, W1, ρ, st1, _, xq, rel1, re.le l1, w1.2, ⟨fun W2 H2 ds us st2 l2 rel2 rus w2 =>
        ⟨W2, dx :: ds, st2, R, xq, rel2, by rw [List.append_nil]; exact RpL.cons (rx.le l2) rus, w2, o.le (l1.trans l2)⟩, (o.le l1).xq⟩⟩, o.xq⟩⟩
@[simp] def mMeth0 (C : Addr) (dsp : DSp) (we : ME) : ME := fun ρ st R xq => we ρ st (fun x st1 => (onO st1 x C fun _ _ => True) ∧ dsp [x] st1 R xq) xq
theorem pd_meth0 {CX : CXT} {k : Nat} {f C : Addr} {N : List Str} {fd : FuncData} {ps : List Str} {dsp : DSp} {m : Str} {o : Expr} {we : ME} {pos apos : Pos} {pl : Sem Bool} (T : ClsD G C N) (hn : m ∉ N) (hm : Meth G.K C m f) (F : FnD X.prog X.w G X.mg X.base CX k f fd ps dsp) (hb : Binds G.K fd ps []) (hx : Passes CX X E) (hr : Room k X.A)
    (ho : PDE G E X o we)
    (ht : eval (.Call (.Attribute o m apos) [] [] pos) X.env = (do
      let ov ← eval o X.env
      standAt apos.atName
      let (f, first) ← holding [ov] (getMethod ov m pl)
      callWith pos f first (backTo pos (starEach [] X.env)) (backToKw pos (keywordEach [] X.env))) := by rfl) (hK : G.K = X.K := by rfl) :
    PDE G E X (.Call (.Attribute o m apos) [] [] pos) (mMeth0 C dsp we) := by
  unfold FnD at F
  have hc := T.cl
  rw [hK] at F hm hb hc
  exact PE.weak (pe_meth0 (pl := pl) ho hc hm F hr hb .nil hx ht) fun σ H Q ⟨W, ρ, st, R, xq, rel, re, w, o⟩ =>
    ⟨W, ρ, st, _, xq, rel, re, w, ⟨fun W1 H1 dx x st1 l1 rel1 rx w1 => by
      obtain ⟨j, a, dd, fs, vs, rfl, h1, h2, h3, _⟩ := onO_of rel1 rx w1.1
      rw [T.Γ] at h3
      exact ⟨a, dd, vs, rfl, h2, h3.no hn, W1, [dx], st1, R, xq, rel1, RpL.one rx, w1.2, o.le l1⟩, o.xq⟩⟩
/-- C(..) -/
@[simp] def mMake (C : Addr) (dsp : DSp) (w : MA) : ME := fun ρ st R xq => w ρ st (fun ds st1 => dsp (.hdl st1.length :: ds) (st1 ++ [.ins C []]) (fun d st2 => d = .non ∧ R (.hdl st1.length) st2) xq) xq
theorem make_new {W : Wd} {H : Hp} {st : Sto} {x dx C : Addr} (r : Rel G W H st) (h1 : H x = none) (h2 : H dx = none) (h3 : dx ≠ x) :
    Le W H ⟨W.m ++ [x], W.ex⟩ (upd (upd H dx (.own x)) x (.ins C dx [])) ∧ Rel G ⟨W.m ++ [x], W.ex⟩ (upd (upd H dx (.own x)) x (.ins C dx [])) (st ++ [.ins C []]) ∧ Rp G.K ⟨W.m ++ [x], W.ex⟩ (upd (upd H dx (.own x)) x (.ins C dx [])) (.hdl st.length) (.ref x) := by
  have r2 := r.fresh (o := HO.own x) h2
  have hx : (upd H dx (.own x)) x = none := by rw [upd_ne (Ne.symm h3)]; exact h1
  refine ⟨(Le.fresh h2).trans (Le.new hx), r2.new hx ⟨dx, [], upd_same, rfl⟩, ?_⟩
  simp only [Rp]
  refine ⟨x, ?_, rfl⟩
  rw [← r.len]; simp
theorem pd_make {CX : CXT} {k : Nat} {f C : Addr} {fd : FuncData} {ps : List Str} {dsp : DSp} {x : Str} {p pos : Pos} {e : Expr} {es : List Expr} {w : MA} (M : Mk G.K C f) (F : FnD X.prog X.w G X.mg X.base CX k f fd ps dsp) (hm : X.mg x = some (.ref C)) (hb : Binds G.K fd ps []) (hx : Passes CX X E) (hr : Room (k + 1) X.A)
    (ha : PDA G E X (e :: es) w) (hg : Gl X x := by rfl) (hdb : (x == ("__debug__" : Str)) = false := by decide) (he : starEach (e :: es) X.env = (false, eval e X.env) :: starEach es X.env := by rfl) (hpl : (backTo pos (starEach es X.env)).any (·.1) = false := by rfl) (hK : G.K = X.K := by rfl) :
    PDE G E X (.Call (.Name x p) (e :: es) [] pos) (mMake C dsp w) := by
  unfold FnD at F
  rw [hK] at F hb M
  exact PE.weak (pe_make M F hr hg hm hb .nil hx ha hdb he hpl) fun σ H Q ⟨W, ρ, st, R, xq, rel, re, w, o⟩ =>
    ⟨W, ρ, st, _, xq, rel, re, w, ⟨fun W1 H1 ds vs st1 l1 rel1 rv w1 y dy n1 n2 n3 => by
      obtain ⟨l2, rel2, rh⟩ := make_new (C := C) rel1 n1 n2 n3
      refine ⟨_, _, _, _, xq, rel2, by rw [List.append_nil]; exact RpL.cons rh (rv.le l2), w1, ⟨fun W3 H3 d v st3 l3 rel3 rv3 w3 => ?_, (o.le (l1.trans l2)).xq⟩⟩
      obtain ⟨rfl, w3⟩ := w3
      exact ⟨rv3, o.rt W3 H3 (.hdl st1.length) (.ref y) st3 (l1.trans (l2.trans l3)) rel3 (rh.le l3) w3⟩, o.xq⟩⟩
theorem pd_make0 {CX : CXT} {k : Nat} {f C : Addr} {fd : FuncData} {ps : List Str} {dsp : DSp} {x : Str} {p pos : Pos} (M : Mk G.K C f) (F : FnD X.prog X.w G X.mg X.base CX k f fd ps dsp) (hm : X.mg x = some (.ref C)) (hb : Binds G.K fd ps []) (hx : Passes CX X E) (hr : Room (k + 1) X.A)
    (hg : Gl X x := by rfl) (hdb : (x == ("__debug__" : Str)) = false := by decide) (hK : G.K = X.K := by rfl) :
    PDE G E X (.Call (.Name x p) [] [] pos) (mMake C dsp maNil) := by
  unfold FnD at F
  rw [hK] at F hb M
  exact PE.weak (pe_make0 M F hr hg hm hb .nil hx hdb) fun σ H Q ⟨W, ρ, st, R, xq, rel, re, w, o⟩ => fun y dy n1 n2 n3 => by
      obtain ⟨l2, rel2, rh⟩ := make_new (C := C) rel n1 n2 n3
      refine ⟨_, _, _, _, xq, rel2, RpL.one rh, w, ⟨fun W3 H3 d v st3 l3 rel3 rv3 w3 => ?_, (o.le l2).xq⟩⟩
      obtain ⟨rfl, w3⟩ := w3
      exact ⟨rv3, o.rt W3 H3 (.hdl st.length) (.ref y) st3 (l2.trans l3) rel3 (rh.le l3) w3⟩
end
end DL

set_option Elab.async false
set_option linter.all false
set_option maxRecDepth 100000
set_option autoImplicit false
namespace DL
open PySem PySem.Spec PyProof.Rows L2

section
variable {G : Gm} {E : XK} {X : Cx}
/-! ## targets -/
abbrev MG := D → DEnv → Sto → (DEnv → Sto → Prop) → XQ → Prop
abbrev MGs := List D → DEnv → Sto → (DEnv → Sto → Prop) → XQ → Prop
structure OutG (G : Gm) (E : XK) (W : Wd) (H : Hp) (k : DEnv → Sto → Prop) (xq : XQ) (Q : L2.St → Hp → Prop) : Prop where
  rt : ∀ W' H' ρ' σ' st', Le W H W' H' → Rel G W' H' st' → RpE G.K W' H' ρ' σ' → k ρ' st' → Q σ' H'
  xq : ∀ W' H' C st', Le W H W' H' → Rel G W' H' st' → xq C st' → E (.ref C) none H'
theorem OutG.le {W W' : Wd} {H H' : Hp} {k : DEnv → Sto → Prop} {xq : XQ} {Q : L2.St → Hp → Prop} (o : OutG G E W H k xq Q) (l : Le W H W' H') : OutG G E W' H' k xq Q :=
  ⟨fun _ _ _ _ _ q => o.rt _ _ _ _ _ (l.trans q), fun _ _ _ _ q => o.xq _ _ _ _ (l.trans q)⟩
def tDG (G : Gm) (E : XK) (g : MG) : TG := fun v σ H Q => ∃ W d ρ st k xq, Rel G W H st ∧ RpE G.K W H ρ σ ∧ Rp G.K W H d v ∧ g d ρ st k xq ∧ OutG G E W H k xq Q
def tDGs (G : Gm) (E : XK) (g : MGs) : TGs := fun vs σ H Q => ∃ W ds ρ st k xq, Rel G W H st ∧ RpE G.K W H ρ σ ∧ RpL G.K W H ds vs ∧ g ds ρ st k xq ∧ OutG G E W H k xq Q
def PDG (G : Gm) (E : XK) (X : Cx) (tg : Expr) (g : MG) : Prop := PG X tg (tDG G E g)
def PDGs (G : Gm) (E : XK) (X : Cx) (tgs : List Expr) (g : MGs) : Prop := PGs X tgs (tDGs G E g)
theorem PG.weak {X : Cx} {e : Expr} {t t' : TG} (h : PG X e t) (hw : ∀ v σ H Q, t' v σ H Q → t v σ H Q) : PG X e t' := ⟨fun pins s σ H v u Q I r q => h.run pins s σ H v u Q I r (hw _ _ _ _ q)⟩
theorem PGs.weak {X : Cx} {e : List Expr} {t t' : TGs} (h : PGs X e t) (hw : ∀ v σ H Q, t' v σ H Q → t v σ H Q) : PGs X e t' := ⟨fun pins s σ H v u Q I r q => h.run pins s σ H v u Q I r (hw _ _ _ _ q)⟩
@[simp] def gNm (i : Nat) : MG := fun d ρ st k _ => k (ρ.set i (some d)) st
theorem gd_nm (i : Nat) {x : Str} {pos : Pos} (hN : X.N.Nodup) (hi : X.N[i]? = some x := by rfl) (hx : Loc X.env.scope x := by first | exact Or.inl rfl | exact Or.inr rfl) (hf : X.fn x = true ∨ X.env.scope.names.lookup x = some .local := by first | exact .inl rfl | exact .inr rfl) : PDG G E X (.Name x pos) (gNm i) :=
  PG.weak (pg_name hN hi hx hf) fun v σ H Q ⟨W, d, ρ, st, k, xq, rel, re, rv, w, o⟩ => o.rt W H _ _ st Le.refl rel (re.set rv i) w
@[simp] def gsNil : MGs := fun ds ρ st k _ => ds = [] ∧ k ρ st
@[simp] def gsCons (g : MG) (r : MGs) : MGs := fun ds ρ st k xq => match ds with | d :: ds => g d ρ st (fun ρ1 st1 => r ds ρ1 st1 k xq) xq | [] => False
theorem gds_nil : PDGs G E X [] gsNil := PGs.weak pgs_nil fun v σ H Q ⟨W, d, ρ, st, k, xq, rel, re, rv, w, o⟩ => by
  obtain ⟨rfl, w⟩ := w
  simp only [RpL] at rv
  exact ⟨rv, o.rt W H _ _ st Le.refl rel re w⟩
theorem gds_cons {e : Expr} {es : List Expr} {g : MG} {r : MGs} (h1 : PDG G E X e g) (h2 : PDGs G E X es r) (hs : (assignEach (e :: es) X.env).map (·.2) = assign e X.env :: (assignEach es X.env).map (·.2) := by rfl) : PDGs G E X (e :: es) (gsCons g r) :=
  PGs.weak (pgs_cons h1 h2 hs) fun v σ H Q ⟨W, ds, ρ, st, k, xq, rel, re, rv, w, o⟩ => by
    unfold gsCons at w
    split at w
    · simp only [RpL] at rv
      obtain ⟨v1, r1, rfl, q1, q2⟩ := rv
      exact ⟨v1, r1, rfl, W, _, ρ, st, _, xq, rel, re, q1, w, ⟨fun W1 H1 ρ1 σ1 st1 l1 rel1 re1 w1 => ⟨W1, _, ρ1, st1, k, xq, rel1, re1, q2.le l1, w1, o.le l1⟩, o.xq⟩⟩
    · cases w
@[simp] def gTp (n : Nat) (r : MGs) : MG := fun d ρ st k xq => match d with | .tup ds => ds.length = n ∧ r ds ρ st k xq | _ => False
theorem gd_tp {es : List Expr} {j : Nat} {r : MGs} {n : Nat} {pos : Pos} (h : PDGs G E X es r) (hc : X.calm = true := by rfl) (hn : (assignEach es X.env).length = n := by rfl) (hst : (assignEach es X.env).findIdx? (·.1) = none := by rfl) (hK : G.K = X.K := by rfl) : PDG G E X (.Tuple es j pos) (gTp n r) :=
  PG.weak (pg_tup hc h hn hst) fun v σ H Q ⟨W, d, ρ, st, k, xq, rel, re, rv, w, o⟩ => by
    unfold gTp at w
    split at w
    · obtain ⟨a, vs, rfl, h1, h2⟩ := tup_sq rv
      rw [← hK]
      exact ⟨a, vs, rfl, h1, by rw [h2.length]; exact w.1, W, _, ρ, st, k, xq, rel, re, h2, w.2, o⟩
    · cases w
/-! o[i] = v -/
abbrev D3 := D → D → D → Sto → (Sto → Prop) → Prop
def rSetK : TSet := fun o i v H Q => ∃ a H', o = .ref a ∧ DPut H a i v H' ∧ Q H'
def rSET : TSet := fun o i v H Q => rSetL o i v H Q ∨ rSetK o i v H Q
theorem set_dict (hu : X.A.units + 1 < cLine) : PSet X rSetK := by
  intro pins s σ H o i v ov iv u Q I ro ri rv ⟨a, H', e, p, q⟩
  subst e
  cases (show ov = Value.ref a from ro)
  exact d_setItem hu I p ri rv fun s' I' => ⟨H', I', q⟩
theorem set_ALL (hu : X.A.units + 1 < cLine) : PSet X rSET := by
  intro pins s σ H o i v ov iv u Q I ro ri rv h
  rcases h with h | h
  · exact set_list pins s σ H o i v ov iv u Q I ro ri rv h
  · exact set_dict hu pins s σ H o i v ov iv u Q I ro ri rv h
def dSet : D3 := fun o i v st k => match o with
  | .hdl j => match st[j]? with
    | some (.lst xs) => onI i fun n => ∃ m, ixN xs.length n = some m ∧ k (st.set j (.lst (xs.set m v)))
    | some (.dK kvs) => kvs.length < sizeLine ∧ ∃ key, toK i = some key ∧ k (st.set j (.dK (putD kvs key v)))
    | _ => False
  | _ => False
theorem dSet_sd {W : Wd} {H : Hp} {st : Sto} {o i v : D} {ov iv u : V} {k : Sto → Prop} {Q : Hp → Prop} (rel : Rel G W H st) (ro : Rp G.K W H o ov) (ri : Rp G.K W H i iv) (rv : Rp G.K W H v u) (w : dSet o i v st k)
    (hQ : ∀ H' st', Le W H W H' → Rel G W H' st' → k st' → Q H') : rSET ov iv u H Q := by
  unfold dSet at w
  split at w
  · rename_i j
    simp only [Rp] at ro
    obtain ⟨a, h1, rfl⟩ := ro
    split at w
    · rename_i xs e
      obtain ⟨b, h2, vs, h3, h4⟩ := rel.cell _ _ e
      rw [h1] at h2; cases h2
      obtain ⟨n, rfl, m, e2, w⟩ := onI_of ri w
      exact .inl ⟨a, vs, n, m, rfl, rfl, h3, by rw [h4.length]; exact e2, hQ _ _ (Le.write (rel.mem h1)) (wrL rel h1 (h4.set rv m)) w⟩
    · rename_i kvs e
      obtain ⟨b, h2, vs, h3, h4⟩ := rel.cell _ _ e
      rw [h1] at h2; cases h2
      obtain ⟨hl, key, e2, w⟩ := w
      obtain rfl := toK_of ri e2
      exact .inr ⟨a, _, rfl, DPut.k h3 (by rw [h4.length]; exact hl), hQ _ _ (Le.write (rel.mem h1)) (wrK rel h1 (h4.put rv)) w⟩
    · cases w
  · cases w
@[simp] def gSb (wo wi : ME) : MG := fun d ρ st k xq => wo ρ st (fun o st1 => wi ρ st1 (fun i st2 => dSet o i d st2 (k ρ)) xq) xq
theorem gd_sb {o i : Expr} {wo wi : ME} {pos : Pos} (hu : X.A.units + 1 < cLine) (ho : PDE G E X o wo) (hi : PDE G E X i wi)
    (ha : ∀ v, assign (.Subscript o i pos) X.env v = (do
      let ov ← holding [v] (eval o X.env)
      let iv ← holding [v, ov] (eval i X.env)
      standAt pos
      holding [v, ov, iv] (setItem ov iv v)
      release [v, ov, iv] []) := by intro _; rfl) : PDG G E X (.Subscript o i pos) (gSb wo wi) :=
  PG.weak (pg_sub ho hi (set_ALL hu) ha) fun v σ H Q ⟨W, d, ρ, st, k, xq, rel, re, rv, w, o⟩ =>
    ⟨W, ρ, st, _, xq, rel, re, w, ⟨fun W1 H1 dx x st1 l1 rel1 rx w1 => ⟨W1, ρ, st1, _, xq, rel1, re.le l1, w1, ⟨fun W2 H2 di y st2 l2 rel2 ry w2 =>
      dSet_sd rel2 (rx.le l2) ry (rv.le (l1.trans l2)) w2 fun H' st' l3 rel3 w3 => o.rt W2 H' ρ σ st' (l1.trans (l2.trans l3)) rel3 (re.le (l1.trans (l2.trans l3))) w3, (o.le l1).xq⟩⟩, o.xq⟩⟩

/-! ## statements -/
@[simp] def sNx : MS := fun e ρ st => e.nx ρ st
@[simp] def sSeq (a b : MS) : MS := fun e ρ st => a { e with nx := fun ρ1 st1 => b e ρ1 st1 } ρ st
theorem sds_nil : PDSs G E X [] sNx := PSs.weak pss_nil fun Dn σ H ⟨W, ρ, st, e, rel, re, w, o⟩ => o.nx W H ρ σ st Le.refl rel re w
theorem sds_one {s : Stmt} {a : MS} (h : PDS G E X s a) : PDSs G E X [s] a := pss_one h
theorem sds_cons {s : Stmt} {r : List Stmt} {a b : MS} (h1 : PDS G E X s a) (h2 : PDSs G E X r b) : PDSs G E X (s :: r) (sSeq a b) :=
  PSs.weak (pss_cons h1 h2) fun Dn σ H ⟨W, ρ, st, e, rel, re, w, o⟩ =>
    ⟨W, ρ, st, _, rel, re, w, ⟨fun W1 H1 ρ1 σ1 st1 l1 rel1 re1 w1 => ⟨W1, ρ1, st1, e, rel1, re1, w1, o.le l1⟩, o.bk, o.ct, o.rt, o.xq⟩⟩
@[simp] def sBk : MS := fun e ρ st => e.bk ρ st
@[simp] def sCt : MS := fun e ρ st => e.ct ρ st
theorem sd_pass {pos : Pos} : PDS G E X (.Pass pos) sNx := PS.weak ps_pass fun Dn σ H ⟨W, ρ, st, e, rel, re, w, o⟩ => o.nx W H ρ σ st Le.refl rel re w
theorem sd_break {pos : Pos} : PDS G E X (.Break pos) sBk := PS.weak ps_break fun Dn σ H ⟨W, ρ, st, e, rel, re, w, o⟩ => o.bk W H ρ σ st Le.refl rel re w
theorem sd_continue {pos : Pos} : PDS G E X (.Continue pos) sCt := PS.weak ps_continue fun Dn σ H ⟨W, ρ, st, e, rel, re, w, o⟩ => o.ct W H ρ σ st Le.refl rel re w
@[simp] def sEx (w : ME) : MS := fun e ρ st => w ρ st (fun _ st1 => e.nx ρ st1) e.xq
theorem sd_expr {v : Expr} {w : ME} {pos : Pos} (h : PDE G E X v w) (hs : swapsWith v none pos.line X.env = pure false := by rfl) : PDS G E X (.Expr v pos) (sEx w) :=
  PS.weak (ps_expr h hs) fun Dn σ H ⟨W, ρ, st, e, rel, re, w, o⟩ =>
    ⟨W, ρ, st, _, e.xq, rel, re, w, ⟨fun W1 H1 d v st1 l1 rel1 rv w1 => o.nx W1 H1 ρ σ st1 l1 rel1 (re.le l1) w1, o.xq⟩⟩
@[simp] def sRt (w : ME) : MS := fun e ρ st => w ρ st e.rt e.xq
theorem sd_ret {v : Expr} {w : ME} {pos : Pos} (h : PDE G E X v w) : PDS G E X (.Return (some v) pos) (sRt w) :=
  PS.weak (ps_ret h) fun Dn σ H ⟨W, ρ, st, e, rel, re, w, o⟩ => ⟨W, ρ, st, e.rt, e.xq, rel, re, w, ⟨o.rt, o.xq⟩⟩
@[simp] def sRtN : MS := fun e _ st => e.rt .non st
theorem sd_retN {pos : Pos} : PDS G E X (.Return none pos) sRtN := PS.weak ps_retN fun Dn σ H ⟨W, ρ, st, e, rel, re, w, o⟩ => o.rt W H .non .non st Le.refl rel rfl w
@[simp] def sIf (t : MT) (a b : MS) : MS := fun e ρ st => t ρ st (fun c st1 => if c = true then a e ρ st1 else b e ρ st1) e.xq
theorem sd_if {c : Expr} {a b : List Stmt} {t : MT} {wa wb : MS} {pos : Pos} (hc : PDT G E X c t) (ha : PDSs G E X a wa) (hb : PDSs G E X b wb) : PDS G E X (.If c a b pos) (sIf t wa wb) :=
  PS.weak (ps_if hc ha hb) fun Dn σ H ⟨W, ρ, st, e, rel, re, w, o⟩ =>
    ⟨W, ρ, st, _, e.xq, rel, re, w, ⟨fun W1 H1 c st1 l1 rel1 w1 => by
      cases c with
      | true => exact ⟨W1, ρ, st1, e, rel1, re.le l1, w1, o.le l1⟩
      | false => exact ⟨W1, ρ, st1, e, rel1, re.le l1, w1, o.le l1⟩, o.xq⟩⟩
@[simp] def sAs (w : ME) (g : MG) : MS := fun e ρ st => w ρ st (fun d st1 => g d ρ st1 e.nx e.xq) e.xq
theorem as_out {W : Wd} {H : Hp} {ρ : DEnv} {σ : L2.St} {st : Sto} {e : DEnds} {Dn : Ends} {g : MG} (rel : Rel G W H st) (re : RpE G.K W H ρ σ) (o : OutS G E W H e Dn) :
    OutE G E W H (fun d st1 => g d ρ st1 e.nx e.xq) e.xq (fun x H1 => tDG G E g x σ H1 Dn.nx) :=
  ⟨fun W1 H1 d v st1 l1 rel1 rv w1 => ⟨W1, d, ρ, st1, e.nx, e.xq, rel1, re.le l1, rv, w1, ⟨(o.le l1).nx, (o.le l1).xq⟩⟩, o.xq⟩
theorem sd_asg {tg v : Expr} {w : ME} {g : MG} {pos : Pos} (hv : PDE G E X v w) (hg : PDG G E X tg g) (hs : swapsWithSole [tg] v pos.line X.env = pure false := by rfl) (hw : swappedStores [tg] v X.env = pure none := by rfl)
    (h1 : (assignEach [tg] X.env).map (·.2) = [assign tg X.env] := by rfl) : PDS G E X (.Assign [tg] v pos) (sAs w g) :=
  PS.weak (ps_asg hv hg hs hw h1) fun Dn σ H ⟨W, ρ, st, e, rel, re, w, o⟩ => ⟨W, ρ, st, _, e.xq, rel, re, w, as_out rel re o⟩
theorem sd_set (i : Nat) {x : Str} {v : Expr} {w : ME} {pos pos' : Pos} (hv : PDE G E X v w) (hN : X.N.Nodup) (hi : X.N[i]? = some x := by rfl) (hx : Loc X.env.scope x := by first | exact Or.inl rfl | exact Or.inr rfl) (hs : swapsWith v (some (.Name x pos')) pos.line X.env = pure false := by rfl) (hf : X.fn x = true ∨ X.env.scope.names.lookup x = some .local := by first | exact .inl rfl | exact .inr rfl) :
    PDS G E X (.Assign [.Name x pos'] v pos) (sAs w (gNm i)) :=
  PS.weak (ps_set hN hi hx hv hs hf) fun Dn σ H ⟨W, ρ, st, e, rel, re, w, o⟩ => ⟨W, ρ, st, _, e.xq, rel, re, w, ⟨fun W1 H1 d v st1 l1 rel1 rv w1 => o.nx W1 H1 _ _ st1 l1 rel1 ((re.le l1).set rv i) w1, o.xq⟩⟩
/-- a, b = x, y -/
@[simp] def sPar (i j : Nat) (w : MA) : MS := fun e ρ st => w ρ st (fun ds st1 => match ds with | [a, b] => e.nx ((ρ.set i (some a)).set j (some b)) st1 | _ => False) e.xq
theorem sd_par (i j : Nat) {x y : Str} {a b : Expr} {w : MA} {px py pt pos : Pos} {kt k2 pt2} (ha : PDA G E X [a, b] w) (hN : X.N.Nodup) (hij : i ≠ j := by decide) (hi : X.N[i]? = some x := by rfl) (hj : X.N[j]? = some y := by rfl) (hc : X.calm = true := by rfl)
    (hx : X.env.scope.names.lookup x = some .local := by rfl) (hy : X.env.scope.names.lookup y = some .local := by rfl)
    (hw : swappedStores [.Tuple [.Name x px, .Name y py] kt pt] (.Tuple [a, b] k2 pt2) X.env = pure (some [x, y]) := by rfl)
    (hs : swapsWithSole [.Tuple [.Name x px, .Name y py] kt pt] (.Tuple [a, b] k2 pt2) pos.line X.env = pure false := by rfl) :
    PDS G E X (.Assign [.Tuple [.Name x px, .Name y py] kt pt] (.Tuple [a, b] k2 pt2) pos) (sPar i j w) :=
  PS.weak (ps_par hc hN hi hj hij hx hy ha hw hs) fun Dn σ H ⟨W, ρ, st, e, rel, re, w, o⟩ =>
    ⟨W, ρ, st, _, e.xq, rel, re, w, ⟨fun W1 H1 ds vs st1 l1 rel1 rv w1 => by
      split at w1
      · obtain ⟨v, u, rfl, r1, r2⟩ := rpl2 rv
        exact ⟨v, u, rfl, o.nx W1 H1 _ _ st1 l1 rel1 (((re.le l1).set r1 i).set r2 j) w1⟩
      · exact w1.elim, o.xq⟩⟩
/-- x += e, numbers -/
@[simp] def sAug (i : Nat) (g : Int → Int → Int) (w : ME) : MS := fun e ρ st => match ρ[i]? with
  | some (some d) => w ρ st (fun y st1 => onI d fun a => onI y fun b => e.nx (ρ.set i (some (.int (g a b)))) st1) e.xq
  | _ => False
theorem sd_aug (i : Nat) {x : Str} {v : Expr} {w : ME} {op : Operator} {g : Int → Int → Int} {pos pos' : Pos} (ho : PIp X op (ipI g)) (hv : PDE G E X v w) (hN : X.N.Nodup) (hi : X.N[i]? = some x := by rfl) (hx : Loc X.env.scope x := by first | exact Or.inl rfl | exact Or.inr rfl) (hf : X.fn x = true ∨ X.env.scope.names.lookup x = some .local := by first | exact .inl rfl | exact .inr rfl) :
    PDS G E X (.AugAssign (.Name x pos') op v pos) (sAug i g w) :=
  PS.weak (ps_aug hN hi hx hv ho hf) fun Dn σ H ⟨W, ρ, st, e, rel, re, w, o⟩ => by
    unfold sAug at w
    split at w
    · rename_i d e1
      obtain ⟨v, h1, h2⟩ := re.get i d e1
      refine ⟨v, h1, W, ρ, st, _, e.xq, rel, re, w, ⟨fun W1 H1 dy y st1 l1 rel1 ry w1 => ?_, o.xq⟩⟩
      obtain ⟨a, rfl, w1⟩ := onI_of h2 w1
      obtain ⟨b, rfl, w1⟩ := onI_of ry w1
      exact ⟨a, b, rfl, rfl, o.nx W1 H1 _ _ st1 l1 rel1 ((re.le l1).set (d := .int (g a b)) (v := .int (g a b)) rfl i) w1⟩
    · cases w
/-! ### while -/
def sWh (c : MT) (b : MS) : MS := fun e ρ st => ∃ Wv : Nat → DEnv → Sto → Prop, (∃ m, Wv m ρ st) ∧ ∀ m ρ st, Wv m ρ st →
  c ρ st (fun z st1 => if z = true then b { e with nx := fun ρ' st' => ∃ m', m' < m ∧ Wv m' ρ' st', ct := fun ρ' st' => ∃ m', m' < m ∧ Wv m' ρ' st', bk := e.nx } ρ st1 else e.nx ρ st1) e.xq
theorem sd_while {c : Expr} {body : List Stmt} {wc : MT} {wb : MS} {pos : Pos} (hp : PassesOwn (model X.prog X.w) X.A X.env X.xe) (hc : PDT G E X c wc) (hb : PDSs G E X body wb) : PDS G E X (.While c body [] pos) (sWh wc wb) :=
  PS.weak (ps_while hp hc hb) fun Dn σ H ⟨W, ρ, st, e, rel, re, w, o⟩ => by
    obtain ⟨Wv, ⟨m0, w0⟩, turn⟩ := w
    refine ⟨fun m σ' H' => ∃ W' ρ' st', Le W H W' H' ∧ Rel G W' H' st' ∧ RpE G.K W' H' ρ' σ' ∧ Wv m ρ' st', ⟨m0, W, ρ, st, Le.refl, rel, re, w0⟩, ?_⟩
    rintro m σ1 H1 ⟨W1, ρ1, st1, l1, rel1, re1, w1⟩
    refine ⟨W1, ρ1, st1, _, e.xq, rel1, re1, turn m ρ1 st1 w1, ⟨fun W2 H2 z st2 l2 rel2 w2 => ?_, (o.le l1).xq⟩⟩
    cases z with
    | false => exact o.nx W2 H2 ρ1 σ1 st2 (l1.trans l2) rel2 (re1.le l2) w2
    | true =>
      refine ⟨fun σ' H' => ∃ m', m' < m ∧ ∃ W' ρ' st', Le W H W' H' ∧ Rel G W' H' st' ∧ RpE G.K W' H' ρ' σ' ∧ Wv m' ρ' st', fun σ' H' h => h, W2, ρ1, st2, _, rel2, re1.le l2, w2, ?_⟩
      have o2 := o.le (l1.trans l2)
      exact ⟨fun W3 H3 ρ3 σ3 st3 l3 rel3 re3 ⟨m', hm, w3⟩ => ⟨m', hm, W3, ρ3, st3, l1.trans (l2.trans l3), rel3, re3, w3⟩, o2.nx,
        fun W3 H3 ρ3 σ3 st3 l3 rel3 re3 ⟨m', hm, w3⟩ => ⟨m', hm, W3, ρ3, st3, l1.trans (l2.trans l3), rel3, re3, w3⟩, o2.rt, o2.xq⟩

/-! ### what is walked -/
abbrev MI := DEnv → Sto → (List D → (Sto → Prop) → Sto → Prop) → XQ → Prop
def ItD (G : Gm) (J : It) (W : Wd) (H : Hp) (xs : List D) (inv : Sto → Prop) : Prop :=
  ∀ (i : Nat) (W' : Wd) (H' : Hp) (st' : Sto), LeR W H W' H' → Rel G W' H' st' → inv st' →
    (xs.length ≤ i → J.stop i H') ∧ ∀ d, xs[i]? = some d → J.go i H' ∧ ∀ x H'', J.yld i H' x H'' → ∃ W'', Le W' H' W'' H'' ∧ Rel G W'' H'' st' ∧ Rp G.K W'' H'' d x
structure OutI (G : Gm) (E : XK) (W : Wd) (H : Hp) (R : List D → (Sto → Prop) → Sto → Prop) (xq : XQ) (Q : It → Hp → Prop) : Prop where
  rt : ∀ W' H' J xs inv st', Le W H W' H' → Rel G W' H' st' → ItD G J W' H' xs inv → R xs inv st' → Q J H'
  xq : ∀ W' H' C st', Le W H W' H' → Rel G W' H' st' → xq C st' → E (.ref C) none H'
def tDI (G : Gm) (E : XK) (wi : MI) : TI := fun σ H Q => ∃ W ρ st R xq, Rel G W H st ∧ RpE G.K W H ρ σ ∧ wi ρ st R xq ∧ OutI G E W H R xq Q
def PDI (G : Gm) (E : XK) (X : Cx) (tg iter : Expr) (wi : MI) : Prop := PI X tg iter (tDI G E wi)
theorem PI.weak {X : Cx} {tg e : Expr} {t t' : TI} (h : PI X tg e t) (hw : ∀ σ H Q, t' σ H Q → t σ H Q) : PI X tg e t' := ⟨fun pins s σ H Q I q => h.run pins s σ H Q I (hw _ _ _ q)⟩
/-- a list or a tuple -/
def iSeq (K : PySem.W.Frag) (tl : TE) : TI := fun σ H R => tl σ H fun x H1 => ∃ a, x = .ref a ∧ (((∃ xs, SqL K H1 a xs) ∧ R (Itl K a) H1) ∨ ((∃ xs, SqT K H1 a xs) ∧ R (Itt K a) H1))
theorem pi_seq {tg l : Expr} {tl : TE} (hl : PE X l tl) : PI X tg l (iSeq X.K tl) := by
  refine ⟨fun pins s σ H R I h => ?_⟩
  refine thn (hl.run pins s σ H _ I h) fun v s1 ⟨x, H1, I1, r1, q1⟩ => ?_
  obtain ⟨a, e, q | q⟩ := q1
  · obtain ⟨⟨xs, hq⟩, q⟩ := q
    subst e
    cases r1
    obtain ⟨its, rv, p, hz⟩ := I1.list hq
    refine wpAny_pyIter_list p.isList ?_
    refine ⟨s1.heap.objs.size, [s1.heap.objs.size], _, _, H1, rfl, I1.kept (t' := s1.toks) fun b o e => Heap.get?_push_of_some _ e, turn_list a _, ⟨_, Heap.get?_push_size _ rfl, rfl, rfl⟩, fun b hb => ?_, q⟩
    have e : b = s1.heap.objs.size := by simpa using hb
    subst e
    exact I1.fpOk (Nat.le_refl _) (I1.hok.fresh (Nat.le_refl _))
  · obtain ⟨⟨xs, hq⟩, q⟩ := q
    subst e
    cases r1
    obtain ⟨its, rv, p, hz⟩ := I1.tuple hq
    refine wpAny_pyIter_tuple (show s1.heap.IsTuple a its.toArray from p) ?_
    refine ⟨s1.heap.objs.size, [s1.heap.objs.size], _, _, H1, rfl, I1.kept (t' := s1.toks) fun b o e => Heap.get?_push_of_some _ e, turn_tuple a _, ⟨_, Heap.get?_push_size _ rfl, rfl, rfl⟩, fun b hb => ?_, q⟩
    have e : b = s1.heap.objs.size := by simpa using hb
    subst e
    exact I1.fpOk (Nat.le_refl _) (I1.hok.fresh (Nat.le_refl _))
theorem it_list {W : Wd} {H : Hp} {a : Addr} {xs : List D} {inv : Sto → Prop} (h : ∀ W' H' st', LeR W H W' H' → Rel G W' H' st' → inv st' → ∃ vs, SqL G.K H' a vs ∧ RpL G.K W' H' xs vs ) : ItD G (Itl G.K a) W H xs inv := by
  intro i W' H' st' l rel hi
  obtain ⟨vs, h1, h2⟩ := h W' H' st' l rel hi
  refine ⟨fun hl => ⟨vs, h1, by rw [h2.length]; exact hl⟩, fun d e => ?_⟩
  obtain ⟨v, e2, rv⟩ := h2.get e
  refine ⟨⟨vs, v, h1, e2⟩, fun x H'' y => ?_⟩
  obtain ⟨rfl, y⟩ := y
  have e3 := y vs h1
  rw [e2] at e3; cases e3
  exact ⟨W', Le.refl, rel, rv⟩
theorem it_tup {W : Wd} {H : Hp} {a : Addr} {xs : List D} {inv : Sto → Prop} (h : ∀ W' H' st', LeR W H W' H' → Rel G W' H' st' → inv st' → ∃ vs, SqT G.K H' a vs ∧ RpL G.K W' H' xs vs ) : ItD G (Itt G.K a) W H xs inv := by
  intro i W' H' st' l rel hi
  obtain ⟨vs, h1, h2⟩ := h W' H' st' l rel hi
  refine ⟨fun hl => ⟨vs, h1, by rw [h2.length]; exact hl⟩, fun d e => ?_⟩
  obtain ⟨v, e2, rv⟩ := h2.get e
  refine ⟨⟨vs, v, h1, e2⟩, fun x H'' y => ?_⟩
  obtain ⟨rfl, y⟩ := y
  have e3 := y vs h1
  rw [e2] at e3; cases e3
  exact ⟨W', Le.refl, rel, rv⟩
def noInv : Sto → Prop := fun _ => True
def dIt (d : D) (st : Sto) (R : List D → (Sto → Prop) → Sto → Prop) : Prop := match d with
  | .lst xs => R xs noInv st
  | .scr xs => R xs noInv st
  | .tup xs => R xs noInv st
  | .hdl k => match st[k]? with | some (.lst xs) => R xs (fun st' => st'[k]? = some (Cell.lst xs)) st | _ => False
  | _ => False
theorem dIt_hdl {st : Sto} {k : Nat} {xs : List D} {R : List D → (Sto → Prop) → Sto → Prop} (h : st[k]? = some (.lst xs)) : dIt (.hdl k) st R = R xs (fun st' => st'[k]? = some (Cell.lst xs)) st := by
  show (match st[k]? with | some (Cell.lst xs) => R xs (fun st' => st'[k]? = some (Cell.lst xs)) st | _ => False) = _
  rw [h]
@[simp] def miSeq (w : ME) : MI := fun ρ st R xq => w ρ st (fun d st1 => dIt d st1 R) xq
theorem mi_seq {tg l : Expr} {w : ME} (h : PDE G E X l w) (hK : G.K = X.K := by rfl) : PDI G E X tg l (miSeq w) :=
  PI.weak (pi_seq h) fun σ H Q ⟨W, ρ, st, R, xq, rel, re, w, o⟩ =>
    ⟨W, ρ, st, _, xq, rel, re, w, ⟨fun W1 H1 d v st1 l1 rel1 rv w1 => by
      rw [← hK]
      unfold dIt at w1
      split at w1
      · rename_i xs
        simp only [Rp] at rv
        obtain ⟨a, vs, rfl, h1, h2, h3, h4⟩ := rv
        refine ⟨a, rfl, .inl ⟨⟨vs, SqL.of h3⟩, o.rt W1 H1 _ xs _ st1 l1 rel1 (it_list fun W2 H2 st2 l2 _ _ => ⟨vs, SqL.of (l2.keep a _ h1 h2 h3).2.2, h4.leR l2⟩) w1⟩⟩
      · rename_i xs
        simp only [Rp] at rv
        obtain ⟨a, vs, rfl, h3, h4⟩ := rv
        refine ⟨a, rfl, .inl ⟨⟨vs, h3.sq⟩, o.rt W1 H1 _ xs _ st1 l1 rel1 (it_list fun W2 H2 st2 l2 _ _ => ⟨vs, (h3.leR l2).sq, h4.leR l2⟩) w1⟩⟩
      · rename_i xs
        simp only [Rp] at rv
        obtain ⟨a, vs, rfl, h3, h4⟩ := rv
        refine ⟨a, rfl, .inr ⟨⟨vs, h3.sq⟩, o.rt W1 H1 _ xs _ st1 l1 rel1 (it_tup fun W2 H2 st2 l2 _ _ => ⟨vs, (h3.leR l2).sq, h4.leR l2⟩) w1⟩⟩
      · rename_i k
        split at w1
        · rename_i xs e
          simp only [Rp] at rv
          obtain ⟨a, h1, rfl⟩ := rv
          obtain ⟨b, h2, vs, h3, h4⟩ := rel1.cell _ _ e
          rw [h1] at h2; cases h2
          refine ⟨a, rfl, .inl ⟨⟨vs, SqL.of h3⟩, o.rt W1 H1 _ xs _ st1 l1 rel1 (it_list fun W2 H2 st2 l2 rel2 hi => ?_) w1⟩⟩
          obtain ⟨b, h5, us, h6, h7⟩ := rel2.cell _ _ hi
          obtain ⟨t, et⟩ := l2.m
          have : W2.m[k]? = some a := by rw [et, List.getElem?_append_left (List.getElem?_eq_some_iff.mp h1).1]; exact h1
          rw [this] at h5; cases h5
          exact ⟨us, SqL.of h6, h7⟩
        · cases w1
      · exact w1.elim, o.xq⟩⟩
/-- range -/
def rngD (lo : Int) (n : Nat) : List D := (List.range n).map fun i => D.int (lo + (i : Nat))
theorem it_rng {W : Wd} {H : Hp} (lo : Int) (n : Nat) : ItD G (Itr lo n) W H (rngD lo n) noInv := by
  intro i W' H' st' l rel _
  refine ⟨fun hl => by show n ≤ i; simpa [rngD] using hl, fun d e => ?_⟩
  have hi : i < n := by
    have := (List.getElem?_eq_some_iff.mp e).1
    simpa [rngD] using this
  refine ⟨hi, fun x H'' y => ?_⟩
  obtain ⟨rfl, rfl⟩ := y
  refine ⟨W', Le.refl, rel, ?_⟩
  simp [rngD, hi] at e
  subst e
  rfl
@[simp] def miR1 (w : MA) : MI := fun ρ st R xq => w ρ st (fun ds st1 => match ds with | [.int j] => -(2 ^ 62) ≤ j ∧ j < 2 ^ 62 ∧ R (rngD 0 j.toNat) noInv st1 | _ => False) xq
theorem mi_r1 {tg a : Expr} {w : MA} {p pos : Pos} (hm : X.mg "range" = none) (ha : PDA G E X [a] w) (hg : Gl X "range" := by rfl) (hs : starEach [a] X.env = [(false, eval a X.env)] := by rfl) : PDI G E X tg (.Call (.Name "range" p) [a] [] pos) (miR1 w) :=
  PI.weak (pi_range1 hg hm ha hs) fun σ H Q ⟨W, ρ, st, R, xq, rel, re, w, o⟩ =>
    ⟨W, ρ, st, _, xq, rel, re, w, ⟨fun W1 H1 ds vs st1 l1 rel1 rv w1 => by
      split at w1
      · obtain ⟨v, rfl, rv2⟩ := rpl1 rv
        obtain rfl : v = V.int _ := rv2
        exact ⟨_, rfl, w1.1, w1.2.1, o.rt W1 H1 _ _ _ st1 l1 rel1 (it_rng 0 _) w1.2.2⟩
      · exact w1.elim, o.xq⟩⟩
@[simp] def miR2 (w : MA) : MI := fun ρ st R xq => w ρ st (fun ds st1 => match ds with | [.int i, .int j] => (-(2 ^ 62) ≤ i ∧ i < 2 ^ 62 ∧ -(2 ^ 62) ≤ j ∧ j < 2 ^ 62) ∧ R (rngD i (j - i).toNat) noInv st1 | _ => False) xq
theorem mi_r2 {tg a b : Expr} {w : MA} {p pos : Pos} (hm : X.mg "range" = none) (ha : PDA G E X [a, b] w) (hg : Gl X "range" := by rfl) (hs : starEach [a, b] X.env = [(false, eval a X.env), (false, eval b X.env)] := by rfl) (hs2 : starEach [b] X.env = [(false, eval b X.env)] := by rfl) : PDI G E X tg (.Call (.Name "range" p) [a, b] [] pos) (miR2 w) :=
  PI.weak (pi_range2 hg hm ha hs hs2) fun σ H Q ⟨W, ρ, st, R, xq, rel, re, w, o⟩ =>
    ⟨W, ρ, st, _, xq, rel, re, w, ⟨fun W1 H1 ds vs st1 l1 rel1 rv w1 => by
      split at w1
      · obtain ⟨v, u, rfl, rv2, ru⟩ := rpl2 rv
        obtain rfl : v = V.int _ := rv2
        obtain rfl : u = V.int _ := ru
        exact ⟨_, _, rfl, w1.1, o.rt W1 H1 _ _ _ st1 l1 rel1 (it_rng _ _) w1.2⟩
      · exact w1.elim, o.xq⟩⟩
/-- range(a, b, -1) -/
def rngDn (lo : Int) (n : Nat) : List D := (List.range n).map fun i => D.int (lo - (i : Nat))
theorem it_rngn {W : Wd} {H : Hp} (lo : Int) (n : Nat) : ItD G (Itc lo (-1) n) W H (rngDn lo n) noInv := by
  intro i W' H' st' l rel _
  refine ⟨fun hl => by show n ≤ i; simpa [rngDn] using hl, fun d e => ?_⟩
  have hi : i < n := by
    have := (List.getElem?_eq_some_iff.mp e).1
    simpa [rngDn] using this
  refine ⟨hi, fun x H'' y => ?_⟩
  obtain ⟨rfl, rfl⟩ := y
  refine ⟨W', Le.refl, rel, ?_⟩
  simp [rngDn, hi] at e
  subst e
  simp only [Rp]
  congr 1
  omega
@[simp] def miR3n (w : MA) : MI := fun ρ st R xq => w ρ st (fun ds st1 => match ds with | [.int i, .int j, .int c] => c = -1 ∧ (-(2 ^ 62) ≤ i ∧ i < 2 ^ 62 ∧ -(2 ^ 62) ≤ j ∧ j < 2 ^ 62) ∧ R (rngDn i (i - j).toNat) noInv st1 | _ => False) xq
/-! ### for -/
def forD (inv : Sto → Prop) (g : MG) (b : MS) (e : DEnds) : List D → DEnv → Sto → Prop
  | [], ρ, st => inv st ∧ e.nx ρ st
  | x :: xs, ρ, st => inv st ∧ g x ρ st (fun ρ1 st1 => b { e with nx := forD inv g b e xs, ct := forD inv g b e xs, bk := e.nx } ρ1 st1) e.xq
@[simp] def sFor (wi : MI) (g : MG) (b : MS) : MS := fun e ρ st => wi ρ st (fun xs inv st1 => forD inv g b e xs ρ st1) e.xq
theorem sd_for {tg iter : Expr} {body : List Stmt} {wi : MI} {g : MG} {wb : MS} {pos : Pos} (hp : PassesOwn (model X.prog X.w) X.A X.env X.xe) (hi : PDI G E X tg iter wi) (hg : PDG G E X tg g) (hb : PDSs G E X body wb) (hc : X.calm = true := by rfl)
    (hs : ∀ x, foldedSetIterable iter X.env x = pure x := by intro _; rfl) : PDS G E X (.For tg iter body [] pos) (sFor wi g wb) :=
  PS.weak (ps_for hp hc hi hg hb hs) fun Dn σ H ⟨W, ρ, st, e, rel, re, w, o⟩ =>
    ⟨W, ρ, st, _, e.xq, rel, re, w, ⟨fun W1 H1 J xs inv st1 l1 rel1 it w1 => by
      refine ⟨fun i m σ' H' => m = xs.length - i ∧ i ≤ xs.length ∧ ∃ W' ρ' st', Le W1 H1 W' H' ∧ Rel G W' H' st' ∧ RpE G.K W' H' ρ' σ' ∧ forD inv g wb e (xs.drop i) ρ' st', ⟨_, rfl, Nat.zero_le _, W1, ρ, st1, Le.refl, rel1, re.le l1, by simpa using w1⟩, ?_⟩
      rintro i m σ2 H2 ⟨rfl, hi, W2, ρ2, st2, l2, rel2, re2, w2⟩
      have o2 := o.le (l1.trans l2)
      by_cases hlt : i < xs.length
      · have ed : xs.drop i = xs[i] :: xs.drop (i + 1) := List.drop_eq_getElem_cons hlt
        rw [ed] at w2
        obtain ⟨hinv, w2⟩ := w2
        obtain ⟨go, hy⟩ := (it i W2 H2 st2 l2.r rel2 hinv).2 xs[i] (by simp [hlt])
        refine .inr ⟨go, fun σ' H' => ∃ W' ρ' st', Le W1 H1 W' H' ∧ Rel G W' H' st' ∧ RpE G.K W' H' ρ' σ' ∧ forD inv g wb e (xs.drop (i + 1)) ρ' st', fun σ' H' h => ⟨xs.length - (i + 1), by omega, rfl, hlt, h⟩, fun x H3 y => ?_⟩
        obtain ⟨W3, l3, rel3, rx⟩ := hy x H3 y
        have o3 := o2.le l3
        refine ⟨W3, xs[i], ρ2, st2, _, e.xq, rel3, re2.le l3, rx, w2, ⟨fun W4 H4 ρ4 σ4 st4 l4 rel4 re4 w4 => ?_, o3.xq⟩⟩
        have o4 := o3.le l4
        refine ⟨W4, ρ4, st4, _, rel4, re4, w4, ⟨fun W5 H5 ρ5 σ5 st5 l5 rel5 re5 w5 => ⟨W5, ρ5, st5, l2.trans (l3.trans (l4.trans l5)), rel5, re5, w5⟩, o4.nx,
          fun W5 H5 ρ5 σ5 st5 l5 rel5 re5 w5 => ⟨W5, ρ5, st5, l2.trans (l3.trans (l4.trans l5)), rel5, re5, w5⟩, o4.rt, o4.xq⟩⟩
      · have hil : i = xs.length := by omega
        subst hil
        rw [List.drop_length] at w2
        exact .inl ⟨(it _ W2 H2 st2 l2.r rel2 w2.1).1 (Nat.le_refl _), o2.nx W2 H2 ρ2 σ2 st2 Le.refl rel2 re2 w2.2⟩, o.xq⟩⟩
end
end DL

set_option Elab.async false
set_option linter.all false
set_option maxRecDepth 100000
set_option autoImplicit false
namespace DL
open PySem PySem.Spec PyProof.Rows L2
/-! ## dicts whose keys are tuples of keys -/
def valN (kvs : List (NK × D)) (k : NK) : Option D := (kvs.find? fun p => decide (p.1 = k)).map (·.2)
def putNK (kvs : List (NK × D)) (k : NK) (d : D) : List (NK × D) := if (kvs.any fun p => decide (p.1 = k)) = true then kvs.map (fun p => if p.1 = k then (p.1, d) else p) else kvs ++ [(k, d)]
mutual
/-- data that is a key -/
def nkOf : D → Option NK
  | .int i => some (.int i)
  | .str x => some (.str x)
  | .tup ds => (nkOfs ds).map .tup
  | _ => none
def nkOfs : List D → Option (List NK)
  | [] => some []
  | d :: ds => match nkOf d, nkOfs ds with
    | some k, some ks => some (k :: ks)
    | _, _ => none
end
mutual
theorem nkOf_d : ∀ (k : NK), nkOf k.d = some k
  | .int _ => rfl
  | .str _ => rfl
  | .tup ks => by simp only [NK.d, nkOf, nkOfs_d ks, Option.map_some]
theorem nkOfs_d : ∀ (ks : List NK), nkOfs (NK.ds ks) = some ks
  | [] => rfl
  | k :: ks => by simp only [NK.ds, nkOfs, nkOf_d k, nkOfs_d ks]
end
mutual
theorem nkOf_eq : ∀ {d : D} {k : NK}, nkOf d = some k → d = k.d
  | .int _, k, e => by simp only [nkOf] at e; cases e; rfl
  | .str _, k, e => by simp only [nkOf] at e; cases e; rfl
  | .tup ds, k, e => by
    simp only [nkOf, Option.map_eq_some_iff] at e
    obtain ⟨ks, e1, rfl⟩ := e
    simp only [NK.d]
    rw [nkOfs_eq e1]
  | .non, k, e => by simp [nkOf] at e
  | .bl _, k, e => by simp [nkOf] at e
  | .lst _, k, e => by simp [nkOf] at e
  | .scr _, k, e => by simp [nkOf] at e
  | .hdl _, k, e => by simp [nkOf] at e
  | .raw _, k, e => by simp [nkOf] at e
  | .exc _, k, e => by simp [nkOf] at e
theorem nkOfs_eq : ∀ {ds : List D} {ks : List NK}, nkOfs ds = some ks → ds = NK.ds ks
  | [], ks, e => by simp only [nkOfs] at e; cases e; rfl
  | d :: ds, ks, e => by
    simp only [nkOfs] at e
    split at e
    · rename_i k ks' e1 e2
      cases e
      simp only [NK.ds]
      rw [nkOf_eq e1, nkOfs_eq e2]
    · cases e
end
section
variable {X : Cx} {pins : List (Addr × Obj)} {σ : L2.St} {H : Hp} {s : Shared} {W : Wd}
/-- a key of the data stands in the heap -/
theorem nk_at (I : Inv X pins σ H s) : ∀ (k : NK) {v : V} {u : Value}, Rp X.K W H k.d v → RelV v u → NKAt s.heap k u := by
  refine NK.ind (fun i v u h r => ?_) (fun x v u h r => ?_) fun ks ih v u h r => ?_
  · simp only [NK.d, Rp] at h; subst h; simp only [NKAt]; exact r
  · simp only [NK.d, Rp] at h; subst h; simp only [NKAt]; exact r
  · simp only [NK.d] at h
    obtain ⟨a, vs, rfl, h1, h2⟩ := tup_sqK h
    cases (show u = Value.ref a from r)
    obtain ⟨its, rv, p, _⟩ := I.tuple h1
    simp only [NKAt]
    refine ⟨a, its.toArray, rfl, p, ?_⟩
    have go : ∀ (ks : List NK) (vs : List V) (us : List Value), (∀ k ∈ ks, ∀ {v : V} {u : Value}, Rp X.K W H k.d v → RelV v u → NKAt s.heap k u) → RpL X.K W H (NK.ds ks) vs → Vals vs us → NKAts s.heap ks us := by
      intro ks
      induction ks with
      | nil =>
        intro vs us _ q r
        simp only [NK.ds, RpL] at q
        subst q
        cases r
        simp only [NKAts]
      | cons k ks ih2 =>
        intro vs us Hk q r
        simp only [NK.ds, RpL] at q
        obtain ⟨v, r', rfl, q1, q2⟩ := q
        cases r with
        | cons r1 r2 =>
          simp only [NKAts]
          exact ⟨_, _, rfl, Hk k (by simp) q1 r1, ih2 _ _ (fun k' hk {_ _} a b => Hk k' (by simp [hk]) a b) q2 r2⟩
    exact go ks vs _ (fun k hk {_ _} a b => ih k hk a b) h2 rv
/-- the dict, as the library has it -/
theorem nd_of (I : Inv X pins σ H s) {a : Addr} {kvs : List (NK × D)} {vs : List (NK × Addr × V)} (e : H a = some (ndO X.w a vs)) (r : RpN X.K W H kvs vs) :
    kvs.length ≤ sizeLine ∧ (a == sysModules) = false ∧ ∃ xs : List (NK × Addr × Value), Paired (fun (p : NK × Addr × V) (q : NK × Addr × Value) => p.1 = q.1 ∧ p.2.1 = q.2.1 ∧ RelV p.2.2 q.2.2) vs xs ∧ s.heap.DictOfH (nkKind X.prog X.w) a xs ∧ xs.length = kvs.length := by
  obtain ⟨⟨z, y, xs, hp, o, es, ep, h1, h2, h3, h4, h5⟩, -⟩ := (show ObjOk X.prog X.w H s.heap a (ndO X.w a vs) from I.hok a _ e)
  have hl : vs.length = kvs.length := by
    clear e z hp
    induction kvs generalizing vs with
    | nil => simp only [RpN] at r; subst r; rfl
    | cons p kvs ih =>
      obtain ⟨k, d⟩ := p
      simp only [RpN] at r
      obtain ⟨b, v, r', rfl, _, _, _, q⟩ := r
      simp [ih q]
  refine ⟨by omega, y, xs, hp, ⟨o, es, ep, h1, h2, h3, h4, ?_, h5⟩, (Paired.length hp).symm.trans hl⟩
  clear h4 h5 hl e z
  induction hp generalizing kvs with
  | nil => intro x hx; cases hx
  | @cons p q ps qs hq t ih =>
    cases kvs with
    | nil => simp only [RpN] at r; cases r
    | cons kv kvs =>
      obtain ⟨k, d⟩ := kv
      simp only [RpN] at r
      obtain ⟨b, v, r', e', q1, q2, _, q3⟩ := r
      cases e'
      intro x hx
      rcases List.mem_cons.mp hx with rfl | hx
      · obtain ⟨a1, a2, _⟩ := hq
        refine ⟨?_, by rw [← a1]; exact q2⟩
        rw [← a1, ← a2]
        exact nk_at I _ q1 rfl
      · exact ih q3 x hx
end
theorem RpN.val {K : PySem.W.Frag} {W : Wd} {H : Hp} (k : NK) : ∀ {kvs : List (NK × D)} {vs : List (NK × Addr × V)} {xs : List (NK × Addr × Value)}, RpN K W H kvs vs → Paired (fun (p : NK × Addr × V) (q : NK × Addr × Value) => p.1 = q.1 ∧ p.2.1 = q.2.1 ∧ RelV p.2.2 q.2.2) vs xs →
    (∃ d v u b, valN kvs k = some d ∧ atKey xs k = some (b, u) ∧ Rp K W H d v ∧ RelV v u) ∨ (valN kvs k = none ∧ atKey xs k = none)
  | [], vs, xs, r, p => by
    simp only [RpN] at r
    subst r
    cases p
    exact .inr ⟨rfl, rfl⟩
  | (j, d) :: kvs, vs, xs, r, p => by
    simp only [RpN] at r
    obtain ⟨b, v, r', rfl, q1, q2, q3, q4⟩ := r
    cases p with
    | @cons _ q _ qs hq t =>
      obtain ⟨a1, a2, a3⟩ := hq
      obtain ⟨qk, qb, qu⟩ := q
      simp only at a1 a2 a3
      subst a1 a2
      by_cases h : j = k
      · subst h
        exact .inl ⟨d, v, qu, b, by simp [valN], by simp [atKey], q3, a3⟩
      · have := RpN.val k q4 t
        simpa [valN, atKey, List.find?_cons, h] using this
theorem anyN (k : NK) (kvs : List (NK × D)) : (kvs.any fun p => decide (p.1 = k)) = (valN kvs k).isSome := by
  induction kvs with
  | nil => rfl
  | cons p kvs ih =>
    by_cases h : p.1 = k
    · simp [valN, List.find?_cons, h]
    · simp only [List.any_cons, decide_eq_false h, Bool.false_or, ih]
      simp [valN, List.find?_cons, h]
theorem RpN.put {K : PySem.W.Frag} {W : Wd} {H : Hp} {k : NK} {d : D} {v : V} {u : Value} {b : Addr} (hk : Rp K W H k.d (.ref b)) (h8 : k.dep ≤ 8) (hv : Rp K W H d v) (ru : RelV v u) {kvs : List (NK × D)} {vs : List (NK × Addr × V)} {xs : List (NK × Addr × Value)} (r : RpN K W H kvs vs)
    (p : Paired (fun (p : NK × Addr × V) (q : NK × Addr × Value) => p.1 = q.1 ∧ p.2.1 = q.2.1 ∧ RelV p.2.2 q.2.2) vs xs) :
    ∃ vs', RpN K W H (putNK kvs k d) vs' ∧ Paired (fun (p : NK × Addr × V) (q : NK × Addr × Value) => p.1 = q.1 ∧ p.2.1 = q.2.1 ∧ RelV p.2.2 q.2.2) vs' (storedH xs k b u) := by
  have key := RpN.val k r p
  unfold putNK storedH
  rw [anyN]
  rcases key with ⟨d', v', u', b', e1, e2, _, _⟩ | ⟨e1, e2⟩
  · rw [e1, e2]
    simp only [Option.isSome_some, if_true]
    clear e1 e2
    refine ⟨vs.map fun q => if q.1 = k then (q.1, q.2.1, v) else q, ?_, ?_⟩
    · clear p
      induction kvs generalizing vs with
      | nil => simp only [RpN] at r; subst r; simp [RpN]
      | cons q kvs ih =>
        obtain ⟨j, dj⟩ := q
        simp only [RpN] at r
        obtain ⟨b1, v1, r', rfl, q1, q2, q3, q4⟩ := r
        rw [List.map_cons, List.map_cons]
        by_cases h : j = k
        · simp only [h, if_true]
          exact ⟨b1, v, _, rfl, by rw [← h]; exact q1, by rw [← h]; exact q2, hv, ih q4⟩
        · simp only [h, if_false]
          exact ⟨b1, v1, _, rfl, q1, q2, q3, ih q4⟩
    · clear r
      induction p with
      | nil => exact .nil
      | @cons p q ps qs hq t ih =>
        rw [List.map_cons, List.map_cons]
        refine .cons ?_ ih
        obtain ⟨a1, a2, a3⟩ := hq
        unfold putAt
        by_cases h : p.1 = k
        · rw [if_pos h, if_pos (a1.symm.trans h)]; exact ⟨a1, a2, ru⟩
        · rw [if_neg h, if_neg (fun z => h (a1.trans z))]; exact ⟨a1, a2, a3⟩
  · rw [e1, e2]
    simp only [Option.isSome_none, Bool.false_eq_true, if_false]
    refine ⟨vs ++ [(k, b, v)], ?_, Paired.snoc p ⟨rfl, rfl, ru⟩⟩
    clear p e1 e2
    induction kvs generalizing vs with
    | nil => simp only [RpN] at r; subst r; exact ⟨b, v, [], rfl, hk, h8, hv, rfl⟩
    | cons q kvs ih =>
      obtain ⟨j, dj⟩ := q
      simp only [RpN] at r
      obtain ⟨b1, v1, r', rfl, q1, q2, q3, q4⟩ := r
      exact ⟨b1, v1, _, rfl, q1, q2, q3, ih q4⟩
theorem putNK_len (kvs : List (NK × D)) (k : NK) (d : D) : (putNK kvs k d).length ≤ kvs.length + 1 := by
  unfold putNK
  split <;> simp
/-! ### the rules, by values -/
def rInN (G : Gm) (neg : Bool) : R2 := fun x y H Q => ∃ W a kvs vs k b, y = .ref a ∧ H a = some (ndO G.w a vs) ∧ RpN G.K W H kvs vs ∧ x = .ref b ∧ Rp G.K W H k.d (.ref b) ∧ k.dep ≤ 8 ∧ Q (.bl (if neg then !(valN kvs k).isSome else (valN kvs k).isSome)) H
def rIxN (G : Gm) : R2 := fun x y H Q => ∃ W a kvs vs k b d, x = .ref a ∧ H a = some (ndO G.w a vs) ∧ RpN G.K W H kvs vs ∧ y = .ref b ∧ Rp G.K W H k.d (.ref b) ∧ k.dep ≤ 8 ∧ valN kvs k = some d ∧ ∀ v, Rp G.K W H d v → Q v H
def rSetN (G : Gm) : TSet := fun o i v H Q => ∃ W a kvs vs k b d, o = .ref a ∧ H a = some (ndO G.w a vs) ∧ RpN G.K W H kvs vs ∧ i = .ref b ∧ Rp G.K W H k.d (.ref b) ∧ k.dep ≤ 8 ∧ Rp G.K W H d v ∧ kvs.length < sizeLine ∧ ∀ vs', RpN G.K W H (putNK kvs k d) vs' → Q (upd H a (ndO G.w a vs'))
section
variable {G : Gm} {X : Cx}
theorem op_inN (hu : X.A.units + 20 < cLine) (hK : G.K = X.K) (hw : G.w = X.w) : OpR X (compareOp .In) (rInN G false) := by
  intro pins s σ H x y v u Q I rx ry h
  obtain ⟨W, a, kvs, vs, k, b, rfl, e, r, rfl, hk, h8, q⟩ := h
  rw [hw] at e
  rw [hK] at r hk
  cases (show u = Value.ref a from ry)
  cases (show v = Value.ref b from rx)
  obtain ⟨z, hd, xs, hp, dd, _⟩ := nd_of I e r
  refine wpAny_in_heap (knd := nkKind X.prog X.w) (show X.A.units + 1 + 10 < cLine by omega) ⟨nk_at I k hk rfl, h8⟩ hd dd ?_
  refine ⟨.bl _, H, I.tok _, rfl, ?_⟩
  rcases RpN.val k r hp with ⟨d', v', u', b', e1, e2, _, _⟩ | ⟨e1, e2⟩
  · rw [e1] at q; rw [e2]; exact q
  · rw [e1] at q; rw [e2]; exact q
theorem op_notInN (hu : X.A.units + 20 < cLine) (hK : G.K = X.K) (hw : G.w = X.w) : OpR X (compareOp .NotIn) (rInN G true) := by
  intro pins s σ H x y v u Q I rx ry h
  obtain ⟨W, a, kvs, vs, k, b, rfl, e, r, rfl, hk, h8, q⟩ := h
  rw [hw] at e
  rw [hK] at r hk
  cases (show u = Value.ref a from ry)
  cases (show v = Value.ref b from rx)
  obtain ⟨z, hd, xs, hp, dd, _⟩ := nd_of I e r
  refine wpAny_notIn_heap (knd := nkKind X.prog X.w) (show X.A.units + 1 + 10 < cLine by omega) ⟨nk_at I k hk rfl, h8⟩ hd dd ?_
  refine ⟨.bl _, H, I.tok _, rfl, ?_⟩
  rcases RpN.val k r hp with ⟨d', v', u', b', e1, e2, _, _⟩ | ⟨e1, e2⟩
  · rw [e1] at q; rw [e2]; exact q
  · rw [e1] at q; rw [e2]; exact q
theorem ix_N (hu : X.A.units + 20 < cLine) (hK : G.K = X.K) (hw : G.w = X.w) : IxR X (rIxN G) := by
  intro value slice pins s σ H x y v u Q I rx ry h hs
  obtain ⟨W, a, kvs, vs, k, b, d, rfl, e, r, rfl, hk, h8, ed, q⟩ := h
  rw [hw] at e
  rw [hK] at r hk
  cases (show v = Value.ref a from rx)
  cases (show u = Value.ref b from ry)
  obtain ⟨z, hd, xs, hp, dd, _⟩ := nd_of I e r
  rcases RpN.val k r hp with ⟨d', v', u', b', e1, e2, e3, e4⟩ | ⟨e1, e2⟩
  · rw [ed] at e1
    cases e1
    exact tail_any dd.typeIs PySem.F.slot_dict_getitem.lookup (wpAny_getItem_heap (knd := nkKind X.prog X.w) (show X.A.units + 1 + 10 < cLine by omega) ⟨nk_at I k hk rfl, h8⟩ dd e2 ⟨v', H, I.tok _, e4, q v' (by rw [hK]; exact e3)⟩) hs
  · rw [ed] at e1; cases e1
theorem set_N (hu : X.A.units + 20 < cLine) (hK : G.K = X.K) (hw : G.w = X.w) : PSet X (rSetN G) := by
  intro pins s σ H o i v ov iv u Q I ro ri rv h
  obtain ⟨W, a, kvs, vs, k, b, d, rfl, e, r, rfl, hk, h8, hv, hl, q⟩ := h
  rw [hw] at e
  rw [hK] at r hk hv
  cases (show ov = Value.ref a from ro)
  cases (show iv = Value.ref b from ri)
  obtain ⟨z, hd, xs, hp, dd, hx⟩ := nd_of I e r
  refine wpAny_setItem_heap (knd := nkKind X.prog X.w) (hsz := by omega) (show X.A.units + 1 + 10 < cLine by omega) ⟨nk_at I k hk rfl, h8⟩ dd fun h' dd' hs => ?_
  obtain ⟨vs', r', p'⟩ := RpN.put hk h8 hv rv r hp
  refine ⟨_, d_write (ob := ndO G.w a vs') I (by rw [e]; exact True.intro) hs ?_ ?_, q vs' (by rw [hK]; exact r')⟩
  · obtain ⟨o', _, _, h1, _⟩ := dd'; exact ⟨o', h1⟩
  · obtain ⟨o', es, ep, h1, h2, h3, h4, _, h5⟩ := dd'
    have hlen : vs'.length ≤ sizeLine := by
      have l1 := Paired.length p'
      have l2 : (storedH xs k b u).length ≤ xs.length + 1 := by unfold storedH; split <;> simp
      omega
    refine ⟨⟨hlen, hd, _, p', o', es, ep, h1, h2, h3, ?_, h5⟩, ⟨o', h1⟩, fun g1 g2 hq hk' => ?_⟩
    · rw [hw]; exact h4
    · obtain ⟨y1, y2, zs, y3, o2, es2, ep2, y4, y5⟩ := hq
      exact ⟨y1, y2, zs, y3, o2, es2, ep2, hk' o2 y4, y5⟩
end
section
variable {G : Gm} {E : XK} {X : Cx}
/-- the dict at a handle -/
def onN (st : Sto) (d : D) (k : Nat → List (NK × D) → Prop) : Prop := match d with
  | .hdl j => match st[j]? with | some (.dN kvs) => k j kvs | _ => False
  | _ => False
theorem onN_hdl {st : Sto} {j : Nat} {kvs : List (NK × D)} {k : Nat → List (NK × D) → Prop} (h : st[j]? = some (.dN kvs)) : onN st (.hdl j) k = k j kvs := by
  show (match st[j]? with | some (.dN kvs) => k j kvs | _ => False) = _
  rw [h]
theorem onN_of {W : Wd} {H : Hp} {st : Sto} {d : D} {v : V} {k : Nat → List (NK × D) → Prop} (r : Rel G W H st) (p : Rp G.K W H d v) (h : onN st d k) :
    ∃ j a kvs vs, d = .hdl j ∧ st[j]? = some (.dN kvs) ∧ v = .ref a ∧ W.m[j]? = some a ∧ H a = some (ndO G.w a vs) ∧ RpN G.K W H kvs vs ∧ k j kvs := by
  unfold onN at h
  split at h
  · split at h
    · rename_i j _ kvs e
      simp only [Rp] at p
      obtain ⟨a, h1, rfl⟩ := p
      obtain ⟨b, h2, vs, h3, h4⟩ := r.cell _ _ e
      rw [h1] at h2; cases h2
      exact ⟨_, a, kvs, vs, rfl, e, rfl, h1, h3, h4, h⟩
    · cases h
  · cases h
theorem nkOf_ref {K : PySem.W.Frag} {W : Wd} {H : Hp} {ds : List D} {v : V} (h : Rp K W H (.tup ds) v) : ∃ b, v = .ref b := by
  simp only [Rp] at h
  obtain ⟨a, _, rfl, _⟩ := h
  exact ⟨a, rfl⟩
/-- a tuple that is a key -/
def onT (d : D) (k : NK → Prop) : Prop := match d with | .tup ds => ∃ j, nkOf (.tup ds) = some j ∧ j.dep ≤ 8 ∧ k j | _ => False
theorem onT_of {K : PySem.W.Frag} {W : Wd} {H : Hp} {d : D} {v : V} {k : NK → Prop} (p : Rp K W H d v) (h : onT d k) : ∃ j b, v = .ref b ∧ Rp K W H j.d (.ref b) ∧ j.dep ≤ 8 ∧ nkOf d = some j ∧ k j := by
  unfold onT at h
  split at h
  · rename_i ds
    obtain ⟨j, e, h8, h⟩ := h
    obtain ⟨b, rfl⟩ := nkOf_ref p
    exact ⟨j, b, rfl, by rw [← nkOf_eq e]; exact p, h8, e, h⟩
  · cases h
@[simp] def dInN (neg : Bool) : D2 := fun x y st R => onN st y fun _ kvs => onT x fun k => R (.bl (if neg then !(valN kvs k).isSome else (valN kvs k).isSome)) st
@[simp] def dIxN : D2 := fun x y st R => onN st x fun _ kvs => onT y fun k => ∃ d, valN kvs k = some d ∧ R d st
theorem od_inN (neg : Bool) : OpD G (rInN G neg) (dInN neg) := by
  intro E W H st dx dy x y R xq Q rel rx ry w o
  obtain ⟨j, a, kvs, vs, _, _, rfl, h1, h2, h3, w⟩ := onN_of rel ry w
  obtain ⟨k, b, rfl, h4, h5, _, w⟩ := onT_of rx w
  exact ⟨W, a, kvs, vs, k, b, rfl, h2, h3, rfl, h4, h5, o.rt W H (.bl _) _ st Le.refl rel rfl w⟩
theorem od_ixN : OpD G (rIxN G) dIxN := by
  intro E W H st dx dy x y R xq Q rel rx ry w o
  obtain ⟨j, a, kvs, vs, _, _, rfl, h1, h2, h3, w⟩ := onN_of rel rx w
  obtain ⟨k, b, rfl, h4, h5, _, d, h6, w⟩ := onT_of ry w
  exact ⟨W, a, kvs, vs, k, b, d, rfl, h2, h3, rfl, h4, h5, h6, fun v rv => o.rt W H d v st Le.refl rel rv w⟩
theorem pd_inN {a b : Expr} {wa wb : ME} {pos : Pos} (hu : X.A.units + 20 < cLine) (ha : PDE G E X a wa) (hb : PDE G E X b wb) (hm : behindInMarks .In b = false := by rfl) (hK : G.K = X.K := by rfl) (hw : G.w = X.w := by first | rfl | assumption) : PDE G E X (.Compare a [.In] [b] pos) (mOp (dInN false) wa wb) := pd_cmp (op_inN hu hK hw) (od_inN false) ha hb hm
theorem pt_inN {a b : Expr} {wa wb : ME} {pos : Pos} (hu : X.A.units + 20 < cLine) (ha : PDE G E X a wa) (hb : PDE G E X b wb) (hm : behindInMarks .In b = false := by rfl) (hK : G.K = X.K := by rfl) (hw : G.w = X.w := by first | rfl | assumption) : PDT G E X (.Compare a [.In] [b] pos) (mTest (mOp (dInN false) wa wb)) := pt_cmp (op_inN hu hK hw) (od_inN false) ha hb hm
theorem pd_ninN {a b : Expr} {wa wb : ME} {pos : Pos} (hu : X.A.units + 20 < cLine) (ha : PDE G E X a wa) (hb : PDE G E X b wb) (hm : behindInMarks .NotIn b = false := by rfl) (hK : G.K = X.K := by rfl) (hw : G.w = X.w := by first | rfl | assumption) : PDE G E X (.Compare a [.NotIn] [b] pos) (mOp (dInN true) wa wb) := pd_cmp (op_notInN hu hK hw) (od_inN true) ha hb hm
theorem pt_ninN {a b : Expr} {wa wb : ME} {pos : Pos} (hu : X.A.units + 20 < cLine) (ha : PDE G E X a wa) (hb : PDE G E X b wb) (hm : behindInMarks .NotIn b = false := by rfl) (hK : G.K = X.K := by rfl) (hw : G.w = X.w := by first | rfl | assumption) : PDT G E X (.Compare a [.NotIn] [b] pos) (mTest (mOp (dInN true) wa wb)) := pt_cmp (op_notInN hu hK hw) (od_inN true) ha hb hm
theorem pd_ixN {a b : Expr} {wa wb : ME} {pos : Pos} (hu : X.A.units + 20 < cLine) (ha : PDE G E X a wa) (hb : PDE G E X b wb) (hs : PlainIx b := by intro _ _; rfl) (hK : G.K = X.K := by rfl) (hw : G.w = X.w := by first | rfl | assumption) : PDE G E X (.Subscript a b pos) (mOp dIxN wa wb) :=
  PE.weak (pe_ix (ix_N hu hK hw) ha hb hs) fun _ _ _ h => op_lift od_ixN h
/-- d[k] = v -/
def dSetN : D3 := fun o i v st k => onN st o fun j kvs => onT i fun key => kvs.length < sizeLine ∧ k (st.set j (.dN (putNK kvs key v)))
@[simp] def gSbN (wo wi : ME) : MG := fun d ρ st k xq => wo ρ st (fun o st1 => wi ρ st1 (fun i st2 => dSetN o i d st2 (k ρ)) xq) xq
theorem gd_sbN {o i : Expr} {wo wi : ME} {pos : Pos} (hu : X.A.units + 20 < cLine) (ho : PDE G E X o wo) (hi : PDE G E X i wi)
    (ha : ∀ v, assign (.Subscript o i pos) X.env v = (do
      let ov ← holding [v] (eval o X.env)
      let iv ← holding [v, ov] (eval i X.env)
      standAt pos
      holding [v, ov, iv] (setItem ov iv v)
      release [v, ov, iv] []) := by intro _; rfl) (hK : G.K = X.K := by rfl) (hw : G.w = X.w := by first | rfl | assumption) : PDG G E X (.Subscript o i pos) (gSbN wo wi) :=
  PG.weak (pg_sub ho hi (set_N hu hK hw) ha) fun v σ H Q ⟨W, d, ρ, st, k, xq, rel, re, rv, w, o⟩ =>
    ⟨W, ρ, st, _, xq, rel, re, w, ⟨fun W1 H1 dx x st1 l1 rel1 rx w1 => ⟨W1, ρ, st1, _, xq, rel1, re.le l1, w1, ⟨fun W2 H2 di y st2 l2 rel2 ry w2 => by
      obtain ⟨j, a, kvs, vs, _, _, rfl, h1, h2, h3, w2⟩ := onN_of rel2 (rx.le l2) w2
      obtain ⟨key, b, rfl, h4, h5, _, hl, w2⟩ := onT_of ry w2
      refine ⟨W2, a, kvs, vs, key, b, d, rfl, h2, h3, rfl, h4, h5, rv.le (l1.trans l2), hl, fun vs' r' => ?_⟩
      have l3 := Le.write (H := H2) (o := ndO G.w a vs') (rel2.mem h1)
      exact o.rt W2 _ ρ σ _ (l1.trans (l2.trans l3)) (rel2.write h1 (c := .dN (putNK kvs key d)) ⟨vs', upd_same, r'.le l3⟩) (re.le (l1.trans (l2.trans l3))) w2, (o.le l1).xq⟩⟩, o.xq⟩⟩
/-- {} -/
def mDicN : ME := fun _ st R _ => R (.hdl st.length) (st ++ [.dN []])
theorem pe_dnewN {pos : Pos} {w : World} (hw : w = X.w) : PE X (.Dict [] [] pos) (fun _ H Q => ∀ p, H p = none → Q (.ref p) (upd H p (ndO w p []))) := ⟨fun pins s σ H Q I h =>
  wpAny_Dict_empty ⟨.ref s.heap.objs.size, _, I.laid (a := s.heap.objs.size) (o := ndO w s.heap.objs.size []) (t' := s.toks) (fun _ _ q => Heap.get?_push_of_some _ q) (Nat.le_refl _)
    ⟨⟨Nat.zero_le _, beq_eq_false_iff_ne.mpr (Ne.symm (Nat.ne_of_lt I.big)), [], .nil, _, #[], 0, Heap.get?_push_size _ rfl, ⟨rfl, rfl, rfl⟩, rfl, rfl, List.nodup_nil⟩, ⟨_, Heap.get?_push_size _ rfl⟩, fun g1 g2 ⟨y1, y2, zs, y3, o2, es2, ep2, y4, y5⟩ hk => ⟨y1, y2, zs, y3, o2, es2, ep2, hk o2 y4, y5⟩⟩,
    rfl, h _ (I.hok.fresh (Nat.le_refl _))⟩⟩
theorem pd_dicN {pos : Pos} (hw : G.w = X.w := by first | rfl | assumption) : PDE G E X (.Dict [] [] pos) mDicN :=
  PE.weak (pe_dnewN hw) fun σ H Q ⟨W, ρ, st, R, xq, rel, re, w, o⟩ p hp =>
    let q := newHN (ds := []) (vs := []) rel hp (by simp only [RpN])
    o.rt _ _ (.hdl st.length) (.ref p) _ (Le.new hp) q.1 q.2 w
end
section
variable {ρ : DEnv} {st : Sto} {R : DQ} {xq : XQ}
theorem dInN_h {n : Bool} {x : D} {j : Nat} {kvs : List (NK × D)} {k : NK} (e : st[j]? = some (.dN kvs)) (ek : nkOf x = some k) (h8 : k.dep ≤ 8) (ht : ∃ ds, x = .tup ds) (h : R (.bl (if n then !(valN kvs k).isSome else (valN kvs k).isSome)) st) : dInN n x (.hdl j) st R := by
  obtain ⟨ds, rfl⟩ := ht
  simp only [dInN, onN_hdl e, onT]
  exact ⟨k, ek, h8, h⟩
theorem dIxN_h {x : D} {j : Nat} {kvs : List (NK × D)} {k : NK} {d : D} (e : st[j]? = some (.dN kvs)) (ek : nkOf x = some k) (h8 : k.dep ≤ 8) (ht : ∃ ds, x = .tup ds) (ed : valN kvs k = some d) (h : R d st) : dIxN (.hdl j) x st R := by
  obtain ⟨ds, rfl⟩ := ht
  simp only [dIxN, onN_hdl e, onT]
  exact ⟨k, ek, h8, d, ed, h⟩
theorem dSetN_h {x v : D} {j : Nat} {kvs : List (NK × D)} {k : NK} {q : Sto → Prop} (e : st[j]? = some (.dN kvs)) (ek : nkOf x = some k) (h8 : k.dep ≤ 8) (ht : ∃ ds, x = .tup ds) (hl : kvs.length < sizeLine) (h : q (st.set j (.dN (putNK kvs k v)))) : dSetN (.hdl j) x v st q := by
  obtain ⟨ds, rfl⟩ := ht
  simp only [dSetN, onN_hdl e, onT]
  exact ⟨k, ek, h8, hl, h⟩
theorem gSbN_i {wa wb : ME} {d : D} {k : DEnv → Sto → Prop} (h : wa ρ st (fun o st1 => wb ρ st1 (fun i st2 => dSetN o i d st2 (k ρ)) xq) xq) : gSbN wa wb d ρ st k xq := h
theorem mDicN_i (h : R (.hdl st.length) (st ++ [.dN []])) : mDicN ρ st R xq := h
end
end DL

set_option Elab.async false
set_option linter.all false
set_option maxRecDepth 100000
set_option autoImplicit false
namespace DL
open PySem PySem.Spec PyProof.Rows L2

/-! ## targets of a comprehension: names, tuples of targets -/
inductive Tgt where
  | nm (i : Nat) | tp (ts : List Tgt)
mutual
def Tgt.h (K : PySem.W.Frag) : Tgt → TG
  | .nm i => gName i
  | .tp ts => gTup K ts.length (Tgt.hs K ts)
def Tgt.hs (K : PySem.W.Frag) : List Tgt → TGs
  | [] => gNil
  | t :: ts => gCons (Tgt.h K t) (Tgt.hs K ts)
end
mutual
def Tgt.run : Tgt → D → DEnv → (DEnv → Prop) → Prop
  | .nm i, d, ρ, k => k (ρ.set i (some d))
  | .tp ts, d, ρ, k => match d with | .tup ds => ds.length = ts.length ∧ Tgt.runs ts ds ρ k | _ => False
def Tgt.runs : List Tgt → List D → DEnv → (DEnv → Prop) → Prop
  | [], ds, ρ, k => ds = [] ∧ k ρ
  | t :: ts, ds, ρ, k => match ds with | d :: ds => Tgt.run t d ρ (fun ρ1 => Tgt.runs ts ds ρ1 k) | [] => False
end
mutual
def Tgt.sl : Tgt → List Nat
  | .nm i => [i]
  | .tp ts => Tgt.sls ts
def Tgt.sls : List Tgt → List Nat
  | [] => []
  | t :: ts => Tgt.sl t ++ Tgt.sls ts
end
theorem wipe_set {i : Nat} {x : Option V} : ∀ {vs : List Nat} {σ : L2.St}, i ∈ vs → wipe (σ.set i x) vs = wipe σ vs
  | [], _, h => by cases h
  | v :: vs, σ, h => by
    unfold wipe
    by_cases e : i ∈ vs
    · rw [wipe_set e]
    · have hv : i = v := by
        rcases List.mem_cons.mp h with h | h
        · exact h
        · exact absurd h e
      subst hv
      have comm : ∀ {us : List Nat} {σ : L2.St}, i ∉ us → wipe (σ.set i x) us = (wipe σ us).set i x := by
        intro us
        induction us with
        | nil => intro σ _; rfl
        | cons u us ih =>
          intro σ hu
          simp only [List.mem_cons, not_or] at hu
          unfold wipe
          rw [ih hu.2, List.set_comm _ _ hu.1]
      rw [comm e, List.set_set]
theorem wipe_get {i : Nat} : ∀ {vs : List Nat} {σ : L2.St}, (wipe σ vs)[i]? = if i ∈ vs then (σ[i]?).map (fun _ => none) else σ[i]?
  | [], σ => by simp [wipe]
  | v :: vs, σ => by
    unfold wipe
    by_cases e : v = i
    · subst e
      simp only [List.mem_cons, true_or, if_true]
      by_cases h : v < (wipe σ vs).length
      · rw [List.getElem?_set_self h]
        rw [wipe_length] at h
        simp [h]
      · rw [List.getElem?_eq_none (by simpa using h)]
        rw [wipe_length] at h
        rw [List.getElem?_eq_none (by omega)]
        rfl
    · rw [List.getElem?_set_ne e, wipe_get]
      simp only [List.mem_cons, Ne.symm e, false_or]
theorem wipe_wipe {vs : List Nat} {σ : L2.St} : wipe (wipe σ vs) vs = wipe σ vs := by
  apply List.ext_getElem?
  intro i
  rw [wipe_get, wipe_get]
  split
  · cases σ[i]? <;> rfl
  · rfl
section
variable {K : PySem.W.Frag} {W : Wd} {H : Hp} {vs : List Nat}
mutual
theorem Tgt.sd : ∀ (t : Tgt) {d : D} {v : V} {ρ : DEnv} {σ : L2.St} {k : DEnv → Prop} {Q : L2.St → Hp → Prop}, (∀ i ∈ t.sl, i ∈ vs) → RpE K W H ρ σ → Rp K W H d v → t.run d ρ k → (∀ ρ' σ', RpE K W H ρ' σ' → wipe σ' vs = wipe σ vs → k ρ' → Q σ' H) → t.h K v σ H Q
  | .nm i, d, v, ρ, σ, k, Q, hs, re, rv, w, o => o _ _ (re.set rv i) (wipe_set (hs i (by simp [Tgt.sl]))) w
  | .tp ts, d, v, ρ, σ, k, Q, hs, re, rv, w, o => by
    simp only [Tgt.run] at w
    split at w
    · obtain ⟨a, us, rfl, h1, h2⟩ := tup_sqK rv
      show gTup K ts.length (Tgt.hs K ts) (.ref a) σ H Q
      exact ⟨a, us, rfl, h1, by rw [h2.length]; exact w.1, Tgt.sds ts hs re h2 w.2 o⟩
    · cases w
theorem Tgt.sds : ∀ (ts : List Tgt) {ds : List D} {us : List V} {ρ : DEnv} {σ : L2.St} {k : DEnv → Prop} {Q : L2.St → Hp → Prop}, (∀ i ∈ Tgt.sls ts, i ∈ vs) → RpE K W H ρ σ → RpL K W H ds us → Tgt.runs ts ds ρ k → (∀ ρ' σ', RpE K W H ρ' σ' → wipe σ' vs = wipe σ vs → k ρ' → Q σ' H) → Tgt.hs K ts us σ H Q
  | [], ds, us, ρ, σ, k, Q, hs, re, rv, w, o => by
    simp only [Tgt.runs] at w
    obtain ⟨rfl, w⟩ := w
    simp only [RpL] at rv
    exact ⟨rv, o _ _ re rfl w⟩
  | t :: ts, ds, us, ρ, σ, k, Q, hs, re, rv, w, o => by
    simp only [Tgt.runs] at w
    split at w
    · simp only [RpL] at rv
      obtain ⟨v, r, rfl, h1, h2⟩ := rv
      show gCons (Tgt.h K t) (Tgt.hs K ts) (v :: r) σ H Q
      refine ⟨v, r, rfl, Tgt.sd t (Q := fun σ' H' => Tgt.hs K ts r σ' H' Q) (fun i hi => hs i (by simp [Tgt.sls, hi])) re h1 w fun ρ' σ' re' hw w' => ?_⟩
      exact Tgt.sds ts (fun i hi => hs i (by simp [Tgt.sls, hi])) re' h2 w' fun ρ2 σ2 re2 hw2 w2 => o ρ2 σ2 re2 (hw2.trans hw) w2
    · cases w
end
end
def PTg (X : Cx) (tg : Expr) (t : Tgt) : Prop := PG X tg (t.h X.K)
def PTgs (X : Cx) (tgs : List Expr) (ts : List Tgt) : Prop := PGs X tgs (Tgt.hs X.K ts)
section
variable {X : Cx}
theorem tg_nm (i : Nat) {x : Str} {pos : Pos} (hN : X.N.Nodup) (hi : X.N[i]? = some x := by rfl) (hx : Loc X.env.scope x := by first | exact Or.inl rfl | exact Or.inr rfl) (hf : X.fn x = true ∨ X.env.scope.names.lookup x = some .local := by first | exact .inl rfl | exact .inr rfl) : PTg X (.Name x pos) (.nm i) := pg_name hN hi hx hf
theorem tgs_nil : PTgs X [] [] := pgs_nil
theorem tgs_cons {e : Expr} {es : List Expr} {t : Tgt} {ts : List Tgt} (h1 : PTg X e t) (h2 : PTgs X es ts) (hs : (assignEach (e :: es) X.env).map (·.2) = assign e X.env :: (assignEach es X.env).map (·.2) := by rfl) : PTgs X (e :: es) (t :: ts) := pgs_cons h1 h2 hs
theorem tg_tp {es : List Expr} {k : Nat} {ts : List Tgt} {pos : Pos} (h : PTgs X es ts) (hc : X.calm = true := by rfl) (hn : (assignEach es X.env).length = ts.length := by rfl) (hst : (assignEach es X.env).findIdx? (·.1) = none := by rfl) : PTg X (.Tuple es k pos) (.tp ts) := pg_tup hc h hn hst
end

/-! ## comprehensions -/
@[simp] def noX : XQ := fun _ _ => False
@[simp] def wipeD (ρ : DEnv) : List Nat → DEnv
  | [] => ρ
  | v :: vs => (wipeD ρ vs).set v none
theorem RpE.wipe {K : PySem.W.Frag} {W : Wd} {H : Hp} {ρ : DEnv} {σ : L2.St} (r : RpE K W H ρ σ) : ∀ vs : List Nat, RpE K W H (wipeD ρ vs) (L2.wipe σ vs)
  | [] => r
  | v :: vs => by
    have ih := r.wipe vs
    unfold wipeD L2.wipe
    refine ⟨by simp [ih.len], fun i d e => ?_⟩
    by_cases h : v = i
    · subst h
      by_cases hv : v < (wipeD ρ vs).length
      · rw [List.getElem?_set_self hv] at e; cases e
      · rw [List.getElem?_eq_none (by simpa using hv)] at e; cases e
    · rw [List.getElem?_set_ne h] at e
      obtain ⟨u, h1, h2⟩ := ih.get i d e
      exact ⟨u, by rw [List.getElem?_set_ne h]; exact h1, h2⟩
theorem RpE.leR {K : PySem.W.Frag} {W W' : Wd} {H H' : Hp} {ρ : DEnv} {σ : L2.St} (r : RpE K W H ρ σ) (l : LeR W H W' H') : RpE K W' H' ρ σ :=
  ⟨r.len, fun i d e => let ⟨v, h1, h2⟩ := r.get i d e; ⟨v, h1, h2.leR l⟩⟩
def lcD (inv : Sto → Prop) (g : Tgt) (tt : MT) (te : ME) (ρ : DEnv) (R : List D → Sto → Prop) : List D → List D → Sto → Prop
  | [], acc, st => inv st ∧ R acc st
  | x :: xs, acc, st => inv st ∧ g.run x ρ fun ρ1 => tt ρ1 st (fun b st1 => if b = true then te ρ1 st1 (fun d st2 => acc.length < sizeLine ∧ lcD inv g tt te ρ R xs (acc ++ [d]) st2) noX else lcD inv g tt te ρ R xs acc st1) noX
/-- the list as data, as a handle -/
@[simp] def mLc (wi : MI) (g : Tgt) (tt : MT) (te : ME) (vs : List Nat) : ME := fun ρ st R xq => wi ρ st (fun xs inv st1 => lcD inv g tt te (wipeD ρ vs) (fun acc st2 => R (.lst acc) st2) xs [] st1) xq
@[simp] def mLcH (wi : MI) (g : Tgt) (tt : MT) (te : ME) (vs : List Nat) : ME := fun ρ st R xq => wi ρ st (fun xs inv st1 => lcD inv g tt te (wipeD ρ vs) (fun acc st2 => R (.hdl st2.length) (st2 ++ [.lst acc])) xs [] st1) xq
@[simp] def mYes : MT := fun _ st R _ => R true st
def PDTs (G : Gm) (E : XK) (X : Cx) (es : List Expr) (w : MT) : Prop := PTs X es (tDT G E w)
theorem ts_nil {G : Gm} {E : XK} {X : Cx} : PDTs G E X [] mYes := ⟨fun pins s σ H Q I ⟨W, ρ, st, R, xq, rel, re, w, o⟩ => wpAny_tests_nil ⟨H, I, o.rt W H true st Le.refl rel w⟩⟩
theorem ts_one {G : Gm} {E : XK} {X : Cx} {c : Expr} {w : MT} (h : PDT G E X c w) : PDTs G E X [c] w := pts_one h
/-- the loop of a comprehension -/
theorem lc_loop {G : Gm} {J : It} {W1 : Wd} {H1 : Hp} {xs : List D} {inv : Sto → Prop} {g : Tgt} {tt : MT} {te : ME} {ρ : DEnv} {σ : L2.St} {R : List D → Sto → Prop} {st1 : Sto} {vs : List Nat} {Q : Hp → Prop} {D : Addr}
    (rel : Rel G W1 H1 st1) (re : RpE G.K W1 H1 ρ σ) (it : ItD G J W1 H1 xs inv) (hg : ∀ i ∈ g.sl, i ∈ vs) (hD : H1 D = none)
    (w : lcD inv g tt te (wipeD ρ vs) R xs [] st1)
    (fin : ∀ m' H' acc vacc st', Le W1 H1 ⟨m', W1.ex⟩ H' → Rel G ⟨m', D :: W1.ex⟩ H' st' → H' D = some (.lst vacc) → RpL G.K ⟨m', D :: W1.ex⟩ H' acc vacc → R acc st' → Q H') :
    ∃ Wn : Nat → Nat → Hp → Prop, (∃ m, Wn 0 m (upd H1 D (.lst []))) ∧ ∀ i m H, Wn i m H →
      (J.stop i H ∧ Q H) ∨ (J.go i H ∧ ∃ Nx : Hp → Prop, (∀ H', Nx H' → ∃ m', m' < m ∧ Wn (i + 1) m' H') ∧ ∀ x H', J.yld i H x H' → g.h G.K x (wipe σ vs) H' fun σ2 H2 => wipe σ2 vs = wipe σ vs ∧ tDT G E0 tt σ2 H2 fun b H3 =>
        if b = true then tD G E0 te σ2 H3 fun y H4 => ∃ acc, H4 D = some (.lst acc) ∧ acc.length < sizeLine ∧ Nx (upd H4 D (.lst (acc ++ [y]))) else Nx H3) := by
  have toR : ∀ {m' : List Addr} {H' : Hp}, Le W1 H1 ⟨m', W1.ex⟩ H' → LeR W1 H1 ⟨m', D :: W1.ex⟩ H' := fun {m' H'} l =>
    ⟨l.m, fun a o h1 h2 e => let q := l.keep a o h1 e; ⟨q.1, by simp only [List.mem_cons, not_or]; exact ⟨ne_of_none e hD, h2⟩, q.2⟩⟩
  refine ⟨fun i m H => m = xs.length - i ∧ i ≤ xs.length ∧ ∃ m' acc vacc st', Le W1 H1 ⟨m', W1.ex⟩ H ∧ Rel G ⟨m', D :: W1.ex⟩ H st' ∧ H D = some (.lst vacc) ∧ RpL G.K ⟨m', D :: W1.ex⟩ H acc vacc ∧ lcD inv g tt te (wipeD ρ vs) R (xs.drop i) acc st',
    ⟨_, rfl, Nat.zero_le _, W1.m, [], [], st1, Le.fresh hD, rel.hide hD, upd_same, RpL.nil, by simpa using w⟩, ?_⟩
  rintro i m H ⟨rfl, hi, m2, acc, vacc, st2, l2, rel2, hD2, ra2, w2⟩
  by_cases hlt : i < xs.length
  · have ed : xs.drop i = xs[i] :: xs.drop (i + 1) := List.drop_eq_getElem_cons hlt
    rw [ed] at w2
    obtain ⟨hinv, w2⟩ := w2
    obtain ⟨go, hy⟩ := (it i ⟨m2, D :: W1.ex⟩ H st2 (toR l2) rel2 hinv).2 xs[i] (by simp [hlt])
    refine .inr ⟨go, fun H' => ∃ m' acc vacc st', Le W1 H1 ⟨m', W1.ex⟩ H' ∧ Rel G ⟨m', D :: W1.ex⟩ H' st' ∧ H' D = some (.lst vacc) ∧ RpL G.K ⟨m', D :: W1.ex⟩ H' acc vacc ∧ lcD inv g tt te (wipeD ρ vs) R (xs.drop (i + 1)) acc st',
      fun H' h => ⟨xs.length - (i + 1), by omega, rfl, hlt, h⟩, fun x H3 y => ?_⟩
    obtain ⟨W3, l3, rel3, rx⟩ := hy x H3 y
    -- grown inside: the outer world grows alike
    have grow : ∀ {m3 : List Addr} {H3 : Hp} {W' : Wd} {H' : Hp}, Le W1 H1 ⟨m3, W1.ex⟩ H3 → Le ⟨m3, D :: W1.ex⟩ H3 W' H' → ∃ m', W' = ⟨m', D :: W1.ex⟩ ∧ Le W1 H1 ⟨m', W1.ex⟩ H' := by
      intro m3 H3 W' H' a b
      obtain ⟨m', ex'⟩ := W'
      have e1 : ex' = D :: W1.ex := b.ex
      subst e1
      exact ⟨m', rfl, a.trans ⟨rfl, b.m, b.keep⟩⟩
    have hDm : ∀ {m3 : List Addr} {H3 : Hp} {st : Sto}, Rel G ⟨m3, D :: W1.ex⟩ H3 st → D ∉ m3 := fun r z => r.out D z List.mem_cons_self
    obtain ⟨m3, rfl, lo3⟩ := grow l2 l3
    have hD3 : H3 D = some (.lst vacc) := (l3.keep D _ (hDm rel2) hD2).2
    have ra3 := ra2.le l3
    refine Tgt.sd g hg ((re.leR (toR lo3)).wipe vs) rx w2 fun ρ4 σ4 re4 hw w4 => ⟨hw.trans wipe_wipe, ?_⟩
    refine ⟨_, ρ4, st2, _, noX, rel3, re4, w4, ⟨fun W5 H5 b st5 l5 rel5 w5 => ?_, fun _ _ _ _ _ _ z => z.elim⟩⟩
    obtain ⟨m5, rfl, lo5⟩ := grow lo3 l5
    have hD5 : H5 D = some (.lst vacc) := (l5.keep D _ (hDm rel3) hD3).2
    have ra5 := ra3.le l5
    cases b with
    | false =>
      rw [if_neg Bool.false_ne_true] at w5 ⊢
      exact ⟨m5, acc, vacc, st5, lo5, rel5, hD5, ra5, w5⟩
    | true =>
      rw [if_pos rfl] at w5 ⊢
      refine ⟨_, ρ4, st5, _, noX, rel5, re4.le l5, w5, ⟨fun W6 H6 d v st6 l6 rel6 rv w6 => ?_, fun _ _ _ _ _ _ z => z.elim⟩⟩
      obtain ⟨m6, rfl, lo6⟩ := grow lo5 l6
      have hD6 : H6 D = some (.lst vacc) := (l6.keep D _ (hDm rel5) hD5).2
      have ra6 := ra5.le l6
      obtain ⟨rel7, l7⟩ := rel6.hidden (a := D) (o := HO.lst (vacc ++ [v])) List.mem_cons_self
      refine ⟨vacc, hD6, by rw [ra6.length]; exact w6.1, m6, acc ++ [d], vacc ++ [v], st6, ?_, rel7, upd_same, (ra6.append (.one rv)).leR l7, w6.2⟩
      refine ⟨rfl, lo6.m, fun a o h1 e => ?_⟩
      obtain ⟨q1, q2⟩ := lo6.keep a o h1 e
      exact ⟨q1, by rw [upd_ne (ne_of_none e hD)]; exact q2⟩
  · have hil : i = xs.length := by omega
    subst hil
    rw [List.drop_length] at w2
    exact .inl ⟨(it _ ⟨m2, D :: W1.ex⟩ H st2 (toR l2) rel2 w2.1).1 (Nat.le_refl _), fin m2 H acc vacc st2 l2 rel2 hD2 ra2 w2.2⟩
section
variable {G : Gm} {E : XK} {X : Cx}
theorem lc_weak {wi : MI} {g : Tgt} {tt : MT} {te : ME} {vs : List Nat} (hg : ∀ i ∈ g.sl, i ∈ vs) {σ : L2.St} {H : Hp} {Q : VK} (h : tD G E (mLc wi g tt te vs) σ H Q) : tLc (tDI G E wi) (g.h G.K) (tDT G E0 tt) (tD G E0 te) vs σ H Q := by
  obtain ⟨W, ρ, st, R, xq, rel, re, w, o⟩ := h
  refine ⟨W, ρ, st, _, xq, rel, re, w, ⟨fun W1 H1 J xs inv st1 l1 rel1 it w1 D hD => ?_, o.xq⟩⟩
  refine lc_loop rel1 (re.le l1) it hg hD w1 fun m' H' acc vacc st' l r e ra q => ?_
  refine o.rt ⟨m', W1.ex⟩ H' (.lst acc) (.ref D) st' (l1.trans l) r.show ?_ q
  simp only [Rp]
  refine ⟨D, vacc, rfl, fun z => r.out D z List.mem_cons_self, rel1.nex hD, e, ra.leR LeR.show⟩
theorem lc_weakH {wi : MI} {g : Tgt} {tt : MT} {te : ME} {vs : List Nat} (hg : ∀ i ∈ g.sl, i ∈ vs) {σ : L2.St} {H : Hp} {Q : VK} (h : tD G E (mLcH wi g tt te vs) σ H Q) : tLc (tDI G E wi) (g.h G.K) (tDT G E0 tt) (tD G E0 te) vs σ H Q := by
  obtain ⟨W, ρ, st, R, xq, rel, re, w, o⟩ := h
  refine ⟨W, ρ, st, _, xq, rel, re, w, ⟨fun W1 H1 J xs inv st1 l1 rel1 it w1 D hD => ?_, o.xq⟩⟩
  refine lc_loop rel1 (re.le l1) it hg hD w1 fun m' H' acc vacc st' l r e ra q => ?_
  obtain ⟨r2, rh⟩ := r.toH (rel1.nex hD) e ra
  have l3 : Le W1 H1 ⟨m' ++ [D], W1.ex⟩ H' := by
    obtain ⟨t, et⟩ := l.m
    refine ⟨rfl, ⟨t ++ [D], by show m' ++ [D] = _; rw [show m' = W1.m ++ t from et, List.append_assoc]⟩, fun a u h1 e1 => ?_⟩
    obtain ⟨q1, q2⟩ := l.keep a u h1 e1
    exact ⟨by simp only [List.mem_append, List.mem_singleton, not_or]; exact ⟨q1, ne_of_none e1 hD⟩, q2⟩
  exact o.rt _ H' (.hdl st'.length) (.ref D) _ (l1.trans l3) r2 rh q
/-- the block's context -/
abbrev Bk (X : Cx) (scope : Scope) (s : Shared) (H : Hp) (C : Addr) (cl : List (Str × Addr)) (fp : List Addr) : Cx := X.blk s H scope (compEnvC scope cl C X.env) fp
theorem pd_lc {elt tg iter : Expr} {ifs : List Expr} {scope : Scope} (own : List (Str × Nat)) {pos : Pos} {wi : MI} {g : Tgt} {tt : MT} {te : ME} (ok : BlkOk X.N X.env.scope scope own) (hN : X.N.Nodup) (hi : PDI G E X tg iter wi)
    (hg : ∀ (s : Shared) (H : Hp) (C : Addr) (cl : List (Str × Addr)) (fp : List Addr), PTg (Bk X scope s H C cl fp) tg g) (ht : ∀ (s : Shared) (H : Hp) (C : Addr) (cl : List (Str × Addr)) (fp : List Addr), PDTs G E0 (Bk X scope s H C cl fp) ifs tt)
    (he : ∀ (s : Shared) (H : Hp) (C : Addr) (cl : List (Str × Addr)) (fp : List Addr), PDE G E0 (Bk X scope s H C cl fp) elt te) (hsl : ∀ i ∈ g.sl, i ∈ own.map (·.2) := by decide) (hc : X.calm = true := by rfl) (hs : ∀ x, foldedSetIterable iter X.env x = pure x := by intro _; rfl) (hK : G.K = X.K := by rfl) :
    PDE G E X (.ListComp elt [⟨tg, iter, ifs, 0⟩] scope pos) (mLc wi g tt te (own.map (·.2))) :=
  PE.weak (pe_lc hc hN hi ok (fun s H C cl fp => by rw [hK]; exact hg s H C cl fp) ht he hs) fun _ _ _ h => lc_weak hsl h
theorem pd_lcH {elt tg iter : Expr} {ifs : List Expr} {scope : Scope} (own : List (Str × Nat)) {pos : Pos} {wi : MI} {g : Tgt} {tt : MT} {te : ME} (ok : BlkOk X.N X.env.scope scope own) (hN : X.N.Nodup) (hi : PDI G E X tg iter wi)
    (hg : ∀ (s : Shared) (H : Hp) (C : Addr) (cl : List (Str × Addr)) (fp : List Addr), PTg (Bk X scope s H C cl fp) tg g) (ht : ∀ (s : Shared) (H : Hp) (C : Addr) (cl : List (Str × Addr)) (fp : List Addr), PDTs G E0 (Bk X scope s H C cl fp) ifs tt)
    (he : ∀ (s : Shared) (H : Hp) (C : Addr) (cl : List (Str × Addr)) (fp : List Addr), PDE G E0 (Bk X scope s H C cl fp) elt te) (hsl : ∀ i ∈ g.sl, i ∈ own.map (·.2) := by decide) (hc : X.calm = true := by rfl) (hs : ∀ x, foldedSetIterable iter X.env x = pure x := by intro _; rfl) (hK : G.K = X.K := by rfl) :
    PDE G E X (.ListComp elt [⟨tg, iter, ifs, 0⟩] scope pos) (mLcH wi g tt te (own.map (·.2))) :=
  PE.weak (pe_lc hc hN hi ok (fun s H C cl fp => by rw [hK]; exact hg s H C cl fp) ht he hs) fun _ _ _ h => lc_weakH hsl h
theorem sd_setLc (i : Nat) {y : Str} {py : Pos} {elt tg iter : Expr} {ifs : List Expr} {scope : Scope} (own : List (Str × Nat)) {pos spos : Pos} {wi : MI} {g : Tgt} {tt : MT} {te : ME} (ok : BlkOk X.N X.env.scope scope own) (hN : X.N.Nodup) (hi : PDI G E X tg iter wi)
    (hg : ∀ (s : Shared) (H : Hp) (C : Addr) (cl : List (Str × Addr)) (fp : List Addr), PTg (Bk X scope s H C cl fp) tg g) (ht : ∀ (s : Shared) (H : Hp) (C : Addr) (cl : List (Str × Addr)) (fp : List Addr), PDTs G E0 (Bk X scope s H C cl fp) ifs tt)
    (he : ∀ (s : Shared) (H : Hp) (C : Addr) (cl : List (Str × Addr)) (fp : List Addr), PDE G E0 (Bk X scope s H C cl fp) elt te) (hsl : ∀ i ∈ g.sl, i ∈ own.map (·.2) := by decide)
    (hsw : swapsWith (.ListComp elt [⟨tg, iter, ifs, 0⟩] scope pos) (some (.Name y py)) spos.line X.env = pure true := by exact sw_true rfl rfl rfl (by decide +kernel)) (hy : X.N[i]? = some y := by rfl) (hyl : X.env.scope.names.lookup y = some .local := by rfl) (hc : X.calm = true := by rfl) (hs : ∀ x, foldedSetIterable iter X.env x = pure x := by intro _; rfl) (hK : G.K = X.K := by rfl) :
    PDS G E X (.Assign [.Name y py] (.ListComp elt [⟨tg, iter, ifs, 0⟩] scope pos) spos) (sAs (mLc wi g tt te (own.map (·.2))) (gNm i)) :=
  PS.weak (ps_setLc hc hN hy hyl hsw hi ok (fun s H C cl fp => by rw [hK]; exact hg s H C cl fp) ht he hs) fun Dn σ H ⟨W, ρ, st, e, rel, re, w, o⟩ =>
    lc_weak hsl ⟨W, ρ, st, _, e.xq, rel, re, w, ⟨fun W1 H1 d v st1 l1 rel1 rv w1 => o.nx W1 H1 _ _ st1 l1 rel1 ((re.le l1).set rv i) w1, o.xq⟩⟩
theorem sd_setLcH (i : Nat) {y : Str} {py : Pos} {elt tg iter : Expr} {ifs : List Expr} {scope : Scope} (own : List (Str × Nat)) {pos spos : Pos} {wi : MI} {g : Tgt} {tt : MT} {te : ME} (ok : BlkOk X.N X.env.scope scope own) (hN : X.N.Nodup) (hi : PDI G E X tg iter wi)
    (hg : ∀ (s : Shared) (H : Hp) (C : Addr) (cl : List (Str × Addr)) (fp : List Addr), PTg (Bk X scope s H C cl fp) tg g) (ht : ∀ (s : Shared) (H : Hp) (C : Addr) (cl : List (Str × Addr)) (fp : List Addr), PDTs G E0 (Bk X scope s H C cl fp) ifs tt)
    (he : ∀ (s : Shared) (H : Hp) (C : Addr) (cl : List (Str × Addr)) (fp : List Addr), PDE G E0 (Bk X scope s H C cl fp) elt te) (hsl : ∀ i ∈ g.sl, i ∈ own.map (·.2) := by decide)
    (hsw : swapsWith (.ListComp elt [⟨tg, iter, ifs, 0⟩] scope pos) (some (.Name y py)) spos.line X.env = pure true := by exact sw_true rfl rfl rfl (by decide +kernel)) (hy : X.N[i]? = some y := by rfl) (hyl : X.env.scope.names.lookup y = some .local := by rfl) (hc : X.calm = true := by rfl) (hs : ∀ x, foldedSetIterable iter X.env x = pure x := by intro _; rfl) (hK : G.K = X.K := by rfl) :
    PDS G E X (.Assign [.Name y py] (.ListComp elt [⟨tg, iter, ifs, 0⟩] scope pos) spos) (sAs (mLcH wi g tt te (own.map (·.2))) (gNm i)) :=
  PS.weak (ps_setLc hc hN hy hyl hsw hi ok (fun s H C cl fp => by rw [hK]; exact hg s H C cl fp) ht he hs) fun Dn σ H ⟨W, ρ, st, e, rel, re, w, o⟩ =>
    lc_weakH hsl ⟨W, ρ, st, _, e.xq, rel, re, w, ⟨fun W1 H1 d v st1 l1 rel1 rv w1 => o.nx W1 H1 _ _ st1 l1 rel1 ((re.le l1).set rv i) w1, o.xq⟩⟩
end
/-! ## a def -/
@[simp] def startD (N : List Str) (ds : List D) : DEnv := ds.map some ++ List.replicate (N.length - ds.length) none
theorem start_rp {K : PySem.W.Frag} {W : Wd} {H : Hp} {N : List Str} {ds : List D} {vs : List V} (r : RpL K W H ds vs) : RpE K W H (startD N ds) (L2.start N vs) := by
  have hl := r.length
  unfold startD L2.start
  refine ⟨by simp [hl], fun i d e => ?_⟩
  by_cases h : i < ds.length
  · rw [List.getElem?_append_left (by simpa using h), List.getElem?_map] at e
    cases q : ds[i]? with
    | none => rw [q] at e; cases e
    | some d' =>
      rw [q] at e
      cases e
      obtain ⟨v, h1, h2⟩ := r.get q
      exact ⟨v, by rw [List.getElem?_append_left (by simpa [hl] using h), List.getElem?_map, h1]; rfl, h2⟩
  · rw [List.getElem?_append_right (by simpa using h)] at e
    have := List.mem_of_getElem? e
    simp at this
theorem FnD.mk {P : Program} {w : World} {G : Gm} {mg : Str → Option Value} {base : Heap} {x qual : Str} {st : Stmt} {f : Addr} {fd : FuncData} {N ps : List Str} {k : Nat} {dsp : DSp} {b : MS} (F : Fun G.K x qual st f fd) (S : FnScope N ps (defScope st)) (len : ∀ ds st R xq, dsp ds st R xq → ds.length = ps.length)
    (der : ∀ (cdv : Value) (A : Around) (outer : List Env) (s : Shared) (H : Hp) (E : XK), Room k (A.deeper (envOfC qual (defScope st) s.heap.objs.size f cdv)) → PDSs G E (cxOf CX0 P w G.K mg base N qual (defScope st) f cdv A outer s H E).nox (defBody st) b)
    (sem : ∀ ds st R xq, dsp ds st R xq → b ⟨fun _ st' => R .non st', R, fun _ _ => False, fun _ _ => False, xq⟩ (startD N ds) st) : FnD P w G mg base CX0 (k + 1) f fd ps dsp := by
  unfold FnD
  refine F.ok S (fun vs H Q E h => ?_) (fun cdv A outer s H vs Q E hr h => ⟨_, der cdv A outer s H E hr, ?_⟩)
  · obtain ⟨W, ds, st, R, xq, rel, rl, hsp, o⟩ := h
    rw [rl.length]; exact len ds st R xq hsp
  · obtain ⟨W, ds, st, R, xq, rel, rl, hsp, o⟩ := h
    exact ⟨W, startD N ds, st, _, rel, start_rp rl, sem ds st R xq hsp, ⟨fun W1 H1 ρ1 σ1 st1 l1 rel1 re1 w1 => o.rt W1 H1 .non .non st1 l1 rel1 rfl w1, fun _ _ _ _ _ _ _ _ z => z.elim, fun _ _ _ _ _ _ _ _ z => z.elim, o.rt, o.xq⟩⟩
end DL

set_option Elab.async false
set_option linter.all false
set_option maxRecDepth 100000
set_option autoImplicit false
namespace DL
open PySem PySem.Spec PyProof.Rows L2

/-! ## == of data -/
mutual
def pyD : D → Option PyData
  | .non => some .none
  | .bl b => some (.bool b)
  | .int i => some (.int i)
  | .str x => some (.str x)
  | .lst xs => (pyDs xs).map .list
  | .scr xs => (pyDs xs).map .list
  | .tup xs => (pyDs xs).map .tuple
  | .hdl _ => none
  | .raw _ => none
  | .exc _ => none
def pyDs : List D → Option (List PyData)
  | [] => some []
  | d :: ds => match pyD d, pyDs ds with | some p, some ps => some (p :: ps) | _, _ => none
end
/-- handles as their lists, n deep -/
def res : Nat → Sto → D → D
  | 0, _, d => d
  | n + 1, st, d => match dr st d with
    | .lst xs => .lst (xs.map (res n st))
    | .tup xs => .tup (xs.map (res n st))
    | d => d
section
variable {G : Gm} {W : Wd} {H : Hp} {st : Sto}
mutual
theorem pyD_dp : ∀ {d : D} {v : V} {p : PyData}, Rp G.K W H d v → pyD d = some p → Dp G.K H v p
  | .non, _, _, h, e => by simp only [pyD] at e; cases e; simp only [Rp] at h; subst h; exact .non
  | .bl b, _, _, h, e => by simp only [pyD] at e; cases e; simp only [Rp] at h; subst h; exact .bl b
  | .int b, _, _, h, e => by simp only [pyD] at e; cases e; simp only [Rp] at h; subst h; exact .int b
  | .str b, _, _, h, e => by simp only [pyD] at e; cases e; simp only [Rp] at h; subst h; exact .str b
  | .lst xs, _, _, h, e => by
    simp only [pyD, Option.map_eq_some_iff] at e
    obtain ⟨ps, e1, rfl⟩ := e
    simp only [Rp] at h
    obtain ⟨a, vs, rfl, _, _, h3, h4⟩ := h
    exact .lst (SqL.of h3) (pyDs_dp h4 e1)
  | .scr xs, _, _, h, e => by
    simp only [pyD, Option.map_eq_some_iff] at e
    obtain ⟨ps, e1, rfl⟩ := e
    simp only [Rp] at h
    obtain ⟨a, vs, rfl, h3, h4⟩ := h
    exact .lst h3.sq (pyDs_dp h4 e1)
  | .tup xs, _, _, h, e => by
    simp only [pyD, Option.map_eq_some_iff] at e
    obtain ⟨ps, e1, rfl⟩ := e
    simp only [Rp] at h
    obtain ⟨a, vs, rfl, h3, h4⟩ := h
    exact .tup h3.sq (pyDs_dp h4 e1)
  | .hdl _, _, _, _, e => by simp [pyD] at e
  | .raw _, _, _, _, e => by simp [pyD] at e
  | .exc _, _, _, _, e => by simp [pyD] at e
theorem pyDs_dp : ∀ {ds : List D} {vs : List V} {ps : List PyData}, RpL G.K W H ds vs → pyDs ds = some ps → DpAll G.K H vs ps
  | [], _, _, h, e => by simp only [pyDs] at e; cases e; simp only [RpL] at h; subst h; exact .nil
  | d :: ds, _, _, h, e => by
    simp only [RpL] at h
    obtain ⟨v, r, rfl, h1, h2⟩ := h
    simp only [pyDs] at e
    split at e
    · rename_i p ps e1 e2
      cases e
      exact .cons (pyD_dp h1 e1) (pyDs_dp h2 e2)
    · cases e
end
theorem res_dp (rel : Rel G W H st) : ∀ (n : Nat) {d : D} {v : V} {p : PyData}, Rp G.K W H d v → pyD (res n st d) = some p → Dp G.K H v p
  | 0, _, _, _, h, e => pyD_dp h e
  | n + 1, d, v, p, h, e => by
    have all : ∀ {ds : List D} {vs : List V} {ps : List PyData}, RpL G.K W H ds vs → pyDs (ds.map (res n st)) = some ps → DpAll G.K H vs ps := by
      intro ds
      induction ds with
      | nil => intro vs ps h e; simp only [List.map_nil, pyDs] at e; cases e; simp only [RpL] at h; subst h; exact .nil
      | cons d ds ih =>
        intro vs ps h e
        simp only [RpL] at h
        obtain ⟨v, r, rfl, h1, h2⟩ := h
        simp only [List.map_cons, pyDs] at e
        split at e
        · rename_i p ps e1 e2
          cases e
          exact .cons (res_dp rel n h1 e1) (ih h2 e2)
        · cases e
    simp only [res] at e
    split at e
    · rename_i xs q
      obtain ⟨a, vs, rfl, h2, h3⟩ := dr_lst rel h q
      simp only [pyD, Option.map_eq_some_iff] at e
      obtain ⟨ps, e1, rfl⟩ := e
      exact .lst (SqL.of h2) (all h3 e1)
    · rename_i xs q
      obtain rfl := dr_tup q
      obtain ⟨a, vs, rfl, h2, h3⟩ := tup_sq h
      simp only [pyD, Option.map_eq_some_iff] at e
      obtain ⟨ps, e1, rfl⟩ := e
      exact .tup h2 (all h3 e1)
    · rename_i q1 q2
      have : dr st d = d := by
        unfold dr
        split
        · split
          · rename_i k _ xs q
            exact absurd (show dr st (.hdl k) = .lst xs from dr_hdl q) (fun z => q1 xs (by assumption))
          · rfl
        · rfl
      rw [this] at e
      exact pyD_dp h e
end
@[simp] def xorB (neg b : Bool) : Bool := if neg then !b else b
@[simp] def dEQ (neg : Bool) : D2 := fun x y st R => match x, y with
  | .int i, .int j => R (.bl (xorB neg (decide (i = j)))) st
  | .bl i, .bl j => R (.bl (xorB neg (decide (i = j)))) st
  | .str i, .str j => R (.bl (xorB neg (decide (i = j)))) st
  | x, y => ∃ n p q, pyD (res n st x) = some p ∧ pyD (res n st y) = some q ∧ SeqAt.shaped p = true ∧ SeqAt.shaped q = true ∧ R (.bl (xorB neg (PyData.eqv p q))) st
section
variable {G : Gm} {E : XK} {X : Cx}
def rEQ (K : PySem.W.Frag) : R2 := fun x y H Q => rEq x y H Q ∨ rEqD K x y H Q
def rNE (K : PySem.W.Frag) : R2 := fun x y H Q => rNe x y H Q ∨ rNeD K x y H Q
theorem op_EQ (hu : X.A.units + 64 < cLine) : OpR X (compareOp .Eq) (rEQ X.K) := op_eq.or (op_eqD hu)
theorem op_NE (hu : X.A.units + 64 < cLine) : OpR X (compareOp .NotEq) (rNE X.K) := op_ne.or (op_neD hu)
theorem dec_V {a b : Int} : decide (V.int a = V.int b) = decide (a = b) := by simp
theorem od_eq (hK : G.K = X.K) : OpD G (rEQ X.K) (dEQ false) := by
  intro E W H st dx dy x y R xq Q rel rx ry w o
  rw [← hK]
  unfold dEQ at w
  split at w
  · simp only [Rp] at rx ry; subst rx; subst ry
    refine .inl ⟨rfl, ?_⟩
    have := o.rt W H (.bl _) _ st Le.refl rel rfl w
    simpa [xorB] using this
  · simp only [Rp] at rx ry; subst rx; subst ry
    refine .inl ⟨rfl, ?_⟩
    have := o.rt W H (.bl _) _ st Le.refl rel rfl w
    simpa [xorB] using this
  · simp only [Rp] at rx ry; subst rx; subst ry
    refine .inl ⟨rfl, ?_⟩
    have := o.rt W H (.bl _) _ st Le.refl rel rfl w
    simpa [xorB] using this
  · obtain ⟨n, p, q, h1, h2, h3, h4, w⟩ := w
    exact .inr ⟨p, q, res_dp rel n rx h1, res_dp rel n ry h2, h3, h4, o.rt W H (.bl _) _ st Le.refl rel rfl w⟩
theorem od_ne (hK : G.K = X.K) : OpD G (rNE X.K) (dEQ true) := by
  intro E W H st dx dy x y R xq Q rel rx ry w o
  rw [← hK]
  unfold dEQ at w
  split at w
  · simp only [Rp] at rx ry; subst rx; subst ry
    refine .inl ⟨rfl, ?_⟩
    have := o.rt W H (.bl _) _ st Le.refl rel rfl w
    simpa [xorB] using this
  · simp only [Rp] at rx ry; subst rx; subst ry
    refine .inl ⟨rfl, ?_⟩
    have := o.rt W H (.bl _) _ st Le.refl rel rfl w
    simpa [xorB] using this
  · simp only [Rp] at rx ry; subst rx; subst ry
    refine .inl ⟨rfl, ?_⟩
    have := o.rt W H (.bl _) _ st Le.refl rel rfl w
    simpa [xorB] using this
  · obtain ⟨n, p, q, h1, h2, h3, h4, w⟩ := w
    exact .inr ⟨p, q, res_dp rel n rx h1, res_dp rel n ry h2, h3, h4, o.rt W H (.bl _) _ st Le.refl rel rfl w⟩
variable {a b : Expr} {wa wb : ME} {pos : Pos}
theorem pd_eq (hu : X.A.units + 64 < cLine) (ha : PDE G E X a wa) (hb : PDE G E X b wb) (hK : G.K = X.K := by rfl) : PDE G E X (.Compare a [.Eq] [b] pos) (mOp (dEQ false) wa wb) := pd_cmp (op_EQ hu) (od_eq hK) ha hb (nomark _)
theorem pt_eq (hu : X.A.units + 64 < cLine) (ha : PDE G E X a wa) (hb : PDE G E X b wb) (hK : G.K = X.K := by rfl) : PDT G E X (.Compare a [.Eq] [b] pos) (mTest (mOp (dEQ false) wa wb)) := pt_cmp (op_EQ hu) (od_eq hK) ha hb (nomark _)
theorem pd_ne (hu : X.A.units + 64 < cLine) (ha : PDE G E X a wa) (hb : PDE G E X b wb) (hK : G.K = X.K := by rfl) : PDE G E X (.Compare a [.NotEq] [b] pos) (mOp (dEQ true) wa wb) := pd_cmp (op_NE hu) (od_ne hK) ha hb (nomark _)
theorem pt_ne (hu : X.A.units + 64 < cLine) (ha : PDE G E X a wa) (hb : PDE G E X b wb) (hK : G.K = X.K := by rfl) : PDT G E X (.Compare a [.NotEq] [b] pos) (mTest (mOp (dEQ true) wa wb)) := pt_cmp (op_NE hu) (od_ne hK) ha hb (nomark _)

/-! ## handles made by + and slices -/
@[simp] def dAddH : D2 := fun x y st R => match dr st x, dr st y with
  | .lst a, .lst b => a.length + b.length ≤ sizeLine ∧ R (.hdl st.length) (st ++ [.lst (a ++ b)])
  | _, _ => False
theorem od_addH : OpD G rADD dAddH := by
  intro E W H st dx dy x y R xq Q rel rx ry w o
  unfold dAddH at w
  split at w
  · rename_i a b e1 e2
    obtain ⟨p, vs, h1, h2, h3⟩ := dr_lst rel rx e1
    obtain ⟨q, us, h4, h5, h6⟩ := dr_lst rel ry e2
    refine .inr (.inr ⟨p, q, vs, us, h1, h4, h2, h5, ?_, fun l hl => ?_⟩)
    · rw [h3.length, h6.length]; exact w.1
    · exact o.rt _ _ (.hdl st.length) _ _ (Le.new hl) (newHL rel hl (h3.append h6)).1 (newHL rel hl (h3.append h6)).2 w.2
  · cases w
@[simp] def dSlH (x : D) (lo hi : Option Int) (st : Sto) (R : DQ) : Prop := match dr st x with
  | .lst xs => R (.hdl st.length) (st ++ [.lst (cutD xs lo hi)])
  | _ => False
@[simp] def mSlH (we : ME) (wl wh : MO) : ME := fun ρ st R xq => we ρ st (fun x st1 => wl ρ st1 (fun lo st2 => wh ρ st2 (fun hi st3 => dSlH x lo hi st3 R) xq) xq) xq
theorem pd_slH {e : Expr} {lo hi : Option Expr} {we : ME} {wl wh : MO} {pos p2 : Pos} (he : PDE G E X e we) (hl : PDO G E X lo wl) (hh : PDO G E X hi wh) (hK : G.K = X.K := by rfl) : PDE G E X (.Subscript e (.Slice lo hi none p2) pos) (mSlH we wl wh) :=
  PE.weak (pe_slice sl_SL he hl hh) fun σ H Q ⟨W, ρ, st, R, xq, rel, re, w, o⟩ =>
  ⟨W, ρ, st, _, xq, rel, re, w, ⟨fun W1 H1 d v st1 l1 rel1 rv w1 =>
    ⟨W1, ρ, st1, _, xq, rel1, re.le l1, w1, ⟨fun W2 H2 lo st2 l2 rel2 w2 =>
      ⟨W2, ρ, st2, _, xq, rel2, re.le (l1.trans l2), w2, ⟨fun W3 H3 hi st3 l3 rel3 w3 => by
        have rv3 := rv.le (l2.trans l3)
        have o3 := o.le (l1.trans (l2.trans l3))
        rw [← hK]
        unfold dSlH at w3
        split at w3
        · rename_i xs e
          obtain ⟨p, vs, h1, h2, h3⟩ := dr_lst rel3 rv3 e
          exact .inl ⟨p, vs, h1, SqL.of h2, fun q hq => o3.rt _ _ (.hdl st3.length) _ _ (Le.new hq) (newHL rel3 hq (cut_rp h3 lo hi)).1 (newHL rel3 hq (cut_rp h3 lo hi)).2 w3⟩
        · exact w3.elim, (o.le (l1.trans l2)).xq⟩⟩, (o.le l1).xq⟩⟩, o.xq⟩⟩
/-! ## xs[::c], c 1 or -1 -/
def rStep (K : PySem.W.Frag) : V → V → Hp → VK → Prop := fun x y H Q => ∃ a xs, x = .ref a ∧ SqL K H a xs ∧ ((y = .int 1 ∧ ∀ p, H p = none → Q (.ref p) (upd H p (.lst xs))) ∨ (y = .int (-1) ∧ ∀ p, H p = none → Q (.ref p) (upd H p (.lst xs.reverse))))
def tStep (K : PySem.W.Frag) (te ts : TE) : TE := fun σ H Q => te σ H fun x H1 => ts σ H1 fun y H2 => rStep K x y H2 Q
theorem pick_one (its : List Value) : slicePick its.toArray none none (some 1) = its.toArray := by
  have e : slicePick its.toArray none none (some 1) = slicePick its.toArray none none none := rfl
  rw [e, slicePick_cut]
  simp [HT.sIx]
theorem pe_step {e c : Expr} {te ts : TE} {p3 pos : Pos} (he : PE X e te) (hc : PE X c ts)
    (hsub : ∀ o i, subscripted (.Slice none none (some c) p3) false o i = operate [o, i] (getItem o i)) : PE X (.Subscript e (.Slice none none (some c) p3) pos) (tStep X.K te ts) := by
  refine ⟨fun pins s σ H Q I h => ?_⟩
  refine Subscript_ (thn (he.run pins s σ H _ I h) fun v s1 ⟨x, H1, I1, r1, q1⟩ => ?_)
  refine wpAny_Slice (thn (po_none.run pins s1 σ H1 (fun o H2 => o = none ∧ H2 = H1) I1 ⟨rfl, rfl⟩) fun vl s2 ⟨l, H2, I2, pl, el, e2⟩ => ?_)
  subst el e2
  refine thn (po_none.run pins s2 σ H2 (fun o H3 => o = none ∧ H3 = H2) I2 ⟨rfl, rfl⟩) fun vu s3 ⟨u, H3, I3, pu, eu, e3⟩ => ?_
  subst eu e3
  rw [evalPart_some]
  refine thn (hc.run pins s3 σ H3 _ I3 q1) fun vs s4 ⟨y, H4, I4, ry, q4⟩ => ?_
  obtain ⟨a, xs, rfl, hx, q4⟩ := q4
  cases (show v = Value.ref a from r1)
  have I5 : Inv X pins σ H4 { s4 with heap := s4.heap.push { cls := .type "slice", data := .fields #[vl, vu, vs] } } := I4.kept (t' := s4.toks) fun b ob q => Heap.get?_push_of_some _ q
  obtain ⟨its, r, ht, hz⟩ := I5.list hx
  have hlen := r.length
  show wpAny (model X.prog X.w) X.A (subscriptTail e (.Slice none none (some c) p3) (.ref a) (.ref s4.heap.objs.size)) (EP X pins σ Q) X.xe { s4 with heap := s4.heap.push { cls := .type "slice", data := .fields #[vl, vu, vs] } }
  refine tail_any (ops := [.ref a, .ref s4.heap.objs.size]) ht.isList.typeIs (PySem.slot_list_getitem.lookup) ?_ (hsub _ _)
  rcases q4 with ⟨rfl, q4⟩ | ⟨rfl, q4⟩
  · obtain ⟨t, rfl⟩ := (show ∃ t, vs = Value.int 1 t from ry)
    refine wpAny_getItem_list_slice ht.isList (Heap.IsSliceOf.new _ vl vu (.int 1 t)) pl pu (.int 1 t) (by decide) ?_ (by rw [List.size_toArray]; omega)
    rw [pick_one]
    refine ⟨.ref _, _, I5.laid (t' := s4.toks) (o := .lst xs) (fun b ob q => Heap.get?_push_of_some _ q) (Nat.le_refl _) ?_, rfl, q4 _ (I5.hok.fresh (Nat.le_refl _))⟩
    exact ⟨hz, _, 0, r, Heap.get?_push_size _ rfl⟩
  · obtain ⟨t, rfl⟩ := (show ∃ t, vs = Value.int (-1) t from ry)
    refine wpAny_getItem_list_slice ht.isList (Heap.IsSliceOf.new _ vl vu (.int (-1) t)) pl pu (.int (-1) t) (by decide) ?_ (by rw [List.size_toArray]; omega)
    rw [PySem.W.krv_pick]
    refine ⟨.ref _, _, I5.laid (t' := s4.toks) (o := .lst xs.reverse) (fun b ob q => Heap.get?_push_of_some _ q) (Nat.le_refl _) ?_, rfl, q4 _ (I5.hok.fresh (Nat.le_refl _))⟩
    exact ⟨by rw [List.length_reverse]; exact hz, _, 0, r.reverse, Heap.get?_push_size _ rfl⟩
@[simp] def dStep (x y : D) (st : Sto) (R : DQ) : Prop := match dr st x, y with
  | .lst xs, .int c => (c = 1 ∧ R (.lst xs) st) ∨ (c = -1 ∧ R (.lst xs.reverse) st)
  | _, _ => False
@[simp] def mSlStep (we wc : ME) : ME := mOp dStep we wc
theorem pd_slStep {e c : Expr} {we wc : ME} {p3 pos : Pos} (he : PDE G E X e we) (hc : PDE G E X c wc) (hsub : ∀ o i, subscripted (.Slice none none (some c) p3) false o i = operate [o, i] (getItem o i) := by intro _ _; with_unfolding_all rfl) (hK : G.K = X.K := by rfl) : PDE G E X (.Subscript e (.Slice none none (some c) p3) pos) (mSlStep we wc) :=
  PE.weak (pe_step he hc hsub) fun σ H Q h => by
    refine op_lift (r := rStep X.K) ?_ h
    intro E W H st dx dy x y R xq Q rel rx ry w o
    rw [← hK]
    unfold dStep at w
    split at w
    · rename_i xs i e
      obtain ⟨a, vs, rfl, h2, h3⟩ := dr_lst rel rx e
      refine ⟨a, vs, rfl, SqL.of h2, ?_⟩
      rcases w with ⟨rfl, w⟩ | ⟨rfl, w⟩
      · exact .inl ⟨ry, fun p hp => o.rt W _ (.lst xs) _ st (Le.fresh hp) (rel.fresh hp) (newL rel hp h3) w⟩
      · exact .inr ⟨ry, fun p hp => o.rt W _ (.lst xs.reverse) _ st (Le.fresh hp) (rel.fresh hp) (newL rel hp h3.reverse) w⟩
    · cases w
/-! ## range(a, b, -1) -/
theorem mi_r3n {tg a b c : Expr} {w : MA} {p pos : Pos} (hm : X.mg "range" = none) (ha : PDA G E X [a, b, c] w) (hg : Gl X "range" := by rfl)
    (hs : starEach [a, b, c] X.env = (false, eval a X.env) :: starEach [b, c] X.env := by rfl) (hpl : (backTo pos (starEach [b, c] X.env)).any (·.1) = false := by rfl) :
    PDI G E X tg (.Call (.Name "range" p) [a, b, c] [] pos) (miR3n w) :=
  PI.weak (pi_range3 hg hm ha hs hpl) fun σ H Q ⟨W, ρ, st, R, xq, rel, re, w, o⟩ =>
    ⟨W, ρ, st, _, xq, rel, re, w, ⟨fun W1 H1 ds vs st1 l1 rel1 rv w1 => by
      split at w1
      · simp only [RpL] at rv
        obtain ⟨v1, r1, rfl, h1, v2, r2, rfl, h2, v3, r3, rfl, h3, rfl⟩ := rv
        obtain rfl : v1 = V.int _ := h1
        obtain rfl : v2 = V.int _ := h2
        obtain rfl : v3 = V.int _ := h3
        obtain ⟨rfl, ⟨b1, b2, b3, b4⟩, w1⟩ := w1
        exact ⟨_, _, _, _, rfl, RgC.neg b1 b2 b3 b4, o.rt W1 H1 _ _ _ st1 l1 rel1 (it_rngn _ _) w1⟩
      · exact w1.elim, o.xq⟩⟩
/-! ## isinstance by built-in types -/
@[simp] def tyD (st : Sto) : D → Option String
  | .non => some "NoneType" | .bl _ => some "bool" | .int _ => some "int" | .str _ => some "str"
  | .lst _ => some "list" | .scr _ => some "list" | .tup _ => some "tuple"
  | .hdl k => match st[k]? with | some (.lst _) => some "list" | some (.dK _) => some "dict" | _ => none
  | .raw _ => none
  | .exc _ => none
@[simp] def dIsi : D1 := fun ds st R => match ds with
  | [x, .raw (.ty c)] => ∃ t b, tyD st x = some t ∧ kitB t c = some b ∧ R (.bl b) st
  | _ => False
theorem call_ISI : CallR X (.builtin "isinstance") (rIsi X.K) := call_isi
theorem sqT_ty {K : PySem.W.Frag} {H : Hp} {a : Addr} {vs : List V} (h : SqT K H a vs) : TyX K H (.ref a) (.type "tuple") := by
  rcases h with (h | ⟨o, h⟩) | ⟨o, its, n, h1, h2, _⟩
  · exact .base (.tup h)
  · exact .fTuple h
  · exact .kTuple h1 h2
theorem sqL_ty {K : PySem.W.Frag} {H : Hp} {a : Addr} {vs : List V} (h : SqL K H a vs) : TyX K H (.ref a) (.type "list") := by
  rcases h with (h | ⟨o, h⟩) | ⟨o, its, n, h1, h2, _⟩
  · exact .base (.lst h)
  · exact .base (.frz h)
  · exact .kList h1 h2
theorem tyD_x {W : Wd} {H : Hp} {st : Sto} {d : D} {v : V} {t : String} (rel : Rel G W H st) (rv : Rp G.K W H d v) (e : tyD st d = some t) : TyX G.K H v (.type t) := by
  cases d with
  | non => simp only [tyD] at e; cases e; simp only [Rp] at rv; subst rv; exact .base .non
  | bl b => simp only [tyD] at e; cases e; simp only [Rp] at rv; subst rv; exact .base (.bl b)
  | int b => simp only [tyD] at e; cases e; simp only [Rp] at rv; subst rv; exact .base (.int b)
  | str b => simp only [tyD] at e; cases e; simp only [Rp] at rv; subst rv; exact .base (.str b)
  | lst xs =>
    simp only [tyD] at e; cases e
    simp only [Rp] at rv
    obtain ⟨a, vs, rfl, _, _, h3, _⟩ := rv
    exact .base (.lst h3)
  | scr xs =>
    simp only [tyD] at e; cases e
    obtain ⟨a, vs, rfl, h3, _⟩ := scr_sq rv
    exact sqL_ty h3
  | tup xs =>
    simp only [tyD] at e; cases e
    obtain ⟨a, vs, rfl, h3, _⟩ := tup_sq rv
    exact sqT_ty h3
  | hdl k =>
    simp only [Rp] at rv
    obtain ⟨a, h1, rfl⟩ := rv
    simp only [tyD] at e
    split at e
    · rename_i xs q
      cases e
      obtain ⟨b, h2, vs, h3, _⟩ := rel.cell _ _ q
      rw [h1] at h2; cases h2
      exact .base (.lst h3)
    · rename_i xs q
      cases e
      obtain ⟨b, h2, vs, h3, _⟩ := rel.cell _ _ q
      rw [h1] at h2; cases h2
      exact .base (.dK h3)
    · cases e
  | raw u => simp [tyD] at e
  | exc u => simp [tyD] at e
theorem cd_isi (hK : G.K = X.K) : CaD G (rIsi X.K) dIsi := by
  intro E W H st ds vs R xq Q rel rs w o
  rw [← hK]
  unfold dIsi at w
  split at w
  · rename_i x c
    obtain ⟨t, b, h1, h2, w⟩ := w
    obtain ⟨v, u, rfl, rv, ru⟩ := rpl2 rs
    obtain rfl : u = V.ty c := ru
    exact ⟨v, .ty c, .type t, .type c, b, rfl, .ty c, tyD_x rel rv h1, kit_ty h2, o.rt W H (.bl b) _ st Le.refl rel rfl w⟩
  · cases w
theorem pd_ty {x : Str} {n : String} {pos : Pos} (hm : X.mg x = none) (hv : bootBuiltins x = some (.type n)) (hg : Gl X x := by rfl) (hn : x ≠ "__name__" := by decide) (hd : (x == ("__debug__" : Str)) = false := by decide) : PDE G E X (.Name x pos) (mC (.raw (.ty n))) :=
  pd_c (pe_bltn hg hm hv (v := .ty n) rfl hn hd) fun _ _ => rfl
/-! ## len(set(xs)) of numbers -/
theorem len_firstMet (ns : List Int) : True := trivial
def setLen (ns : List Int) : Nat := (PyProof.Rows.firstMet (fun i => ns.getD i 0) ns.length).length
def tLenSetJ (K : PySem.W.Frag) (ta : TE) : TE := fun σ H Q => ta σ H fun x H1 => ∃ (l : Addr) (ns : List Int), x = .ref l ∧ SqL K H1 l (ns.map V.int) ∧ ns.length ≤ 4000 ∧ Q (.int (setLen ns : Nat)) H1
theorem pe_lenSetJ {a : Expr} {ta : TE} {p p2 q pos : Pos} (hg : Gl X "len") (hm : X.mg "len" = none) (hg2 : Gl X "set") (hm2 : X.mg "set" = none) (ha : PE X a ta) (hc : X.calm = true)
    (na : starEach [a] X.env = (false, eval a X.env) :: starEach [] X.env) : PE X (.Call (.Name "len" p) [.Call (.Name "set" p2) [a] [] q] [] pos) (tLenSetJ X.K ta) := by
  refine ⟨fun pins s σ H Q I h => ?_⟩
  refine Call_ (ld_blt I hg hm boot_len ?_)
  refine PyProof.Rows.callWith_builtin1 (PyProof.Rows.args_cons ?_ rfl) rfl rfl
  refine Call_ (ld_blt I hg2 hm2 boot_set ?_)
  refine PyProof.Rows.callWith_type1 (PyProof.Rows.args_cons (thn (ha.run pins s σ H _ I h) fun v s1 ⟨x, H1, I1, r1, q1⟩ => PyProof.Rows.args_nil ?_) na) na rfl
  obtain ⟨l, ns, rfl, hq, hl, q1⟩ := q1
  cases r1
  obtain ⟨its, r, pl, hz⟩ := I1.list hq
  have hlen : its.toArray.size = ns.length := by rw [List.size_toArray, ← r.length, List.length_map]
  refine call_set_list (I1.ok.hd hc) pl.isList (ns := ns) (by simpa using r.ints) (by rw [hlen]; unfold scanBound; omega) fun h' tk hS hk => ?_
  refine PyProof.Rows.args_nil ?_
  rw [hlen] at hS
  obtain ⟨o, es, ep, t, ho, hex, hd, _, _, _, hf, hn⟩ := hS
  have I2 : Inv X pins σ H1 { s1 with heap := h', toks := tk } := I1.kept fun b o e => hk b o (Heap.lt_size e) e
  have hle : (PyProof.Rows.firstMet (fun i => ns.getD i 0) ns.length).length ≤ ns.length := by
    have : ∀ i, (PyProof.Rows.firstMet (fun i => ns.getD i 0) i).length ≤ i := by
      intro i
      induction i with
      | zero => exact Nat.le_refl _
      | succ i ih =>
        rw [PyProof.Rows.firstMet_succ]
        unfold PyProof.Rows.step_dedup
        split
        · omega
        · simp only [List.length_append, List.length_singleton]; omega
    exact this _
  exact call_len_set ho hex hd hf (by rw [hn] <;> omega) ⟨.int (setLen ns : Nat), H1, I2.tok _, ⟨_, by rw [hn]; rfl⟩, q1⟩
@[simp] def mLenSet (w : ME) : ME := fun ρ st R xq => w ρ st (fun d st1 => onL st1 d fun xs => ∃ ns, allI xs = some ns ∧ ns.length ≤ 4000 ∧ R (.int (setLen ns : Nat)) st1) xq
theorem pd_lenSet {a : Expr} {w : ME} {p p2 q pos : Pos} (hm : X.mg "len" = none) (hm2 : X.mg "set" = none) (ha : PDE G E X a w) (hg : Gl X "len" := by rfl) (hg2 : Gl X "set" := by rfl) (hc : X.calm = true := by rfl) (na : starEach [a] X.env = (false, eval a X.env) :: starEach [] X.env := by rfl) (hK : G.K = X.K := by rfl) :
    PDE G E X (.Call (.Name "len" p) [.Call (.Name "set" p2) [a] [] q] [] pos) (mLenSet w) :=
  PE.weak (pe_lenSetJ hg hm hg2 hm2 ha hc na) fun σ H Q ⟨W, ρ, st, R, xq, rel, re, w, o⟩ =>
    ⟨W, ρ, st, _, xq, rel, re, w, ⟨fun W1 H1 d v st1 l1 rel1 rv w1 => by
      obtain ⟨a, vs, xs, rfl, h1, h2, ns, e, h3, w1⟩ := onL_of rel1 rv w1
      rw [← hK]
      exact ⟨a, ns, rfl, by rw [← allI_rp h2 e]; exact h1, h3, o.rt W1 H1 (.int _) _ st1 l1 rel1 rfl w1⟩, o.xq⟩⟩
end
/-! ## calls, in short -/
structure Cal (P : Program) (w : World) (G : Gm) (mg : Str → Option Value) (base : Heap) (k : Nat) (x : Str) (dsp : DSp) : Prop where
  ex : ∃ f fd ps, FnD P w G mg base CX0 k f fd ps dsp ∧ mg x = some (.ref f) ∧ PySem.W.keepIn G.K (.ref f) = true ∧ Binds G.K fd ps []
structure CalM (P : Program) (w : World) (G : Gm) (mg : Str → Option Value) (base : Heap) (k : Nat) (C : Addr) (N : List Str) (m : Str) (dsp : DSp) : Prop where
  cls : ClsD G C N
  no : m ∉ N
  ex : ∃ f fd ps, FnD P w G mg base CX0 k f fd ps dsp ∧ Meth G.K C m f ∧ Binds G.K fd ps []
structure CalI (P : Program) (w : World) (G : Gm) (mg : Str → Option Value) (base : Heap) (k : Nat) (C : Addr) (x : Str) (dsp : DSp) : Prop where
  ex : ∃ f fd ps, FnD P w G mg base CX0 k f fd ps dsp ∧ Mk G.K C f ∧ mg x = some (.ref C) ∧ Binds G.K fd ps []
section
variable {G : Gm} {E : XK} {X : Cx} {k : Nat} {dsp : DSp}
theorem pd_callC {x : Str} {p pos : Pos} {e : Expr} {es : List Expr} {w : MA} (C : Cal X.prog X.w G X.mg X.base k x dsp) (hr : Room k X.A) (ha : PDA G E X (e :: es) w) (hg : Gl X x := by rfl) (hdb : (x == ("__debug__" : Str)) = false := by decide +kernel) (he : starEach (e :: es) X.env = (false, eval e X.env) :: starEach es X.env := by rfl) (hpl : (backTo pos (starEach es X.env)).any (·.1) = false := by rfl) (hK : G.K = X.K := by rfl) :
    PDE G E X (.Call (.Name x p) (e :: es) [] pos) (mCall dsp w) := by
  obtain ⟨f, fd, ps, F, hm, hk, hb⟩ := C.ex
  exact pd_call F hm hk hb passA hr ha hg hdb he hpl hK
theorem pd_call0C {x : Str} {p pos : Pos} (C : Cal X.prog X.w G X.mg X.base k x dsp) (hr : Room k X.A) (hg : Gl X x := by rfl) (hdb : (x == ("__debug__" : Str)) = false := by decide +kernel) (hK : G.K = X.K := by rfl) :
    PDE G E X (.Call (.Name x p) [] [] pos) (mCall dsp maNil) := by
  obtain ⟨f, fd, ps, F, hm, hk, hb⟩ := C.ex
  exact pd_call0 F hm hk hb passA hr hg hdb hK
theorem pd_methC {C : Addr} {N : List Str} {m : Str} {o e : Expr} {es : List Expr} {we : ME} {wa : MA} {pos apos : Pos} {pl : Sem Bool} (c : CalM X.prog X.w G X.mg X.base k C N m dsp) (hr : Room k X.A) (ho : PDE G E X o we) (ha : PDA G E X (e :: es) wa)
    (hst : starEach (e :: es) X.env = (false, eval e X.env) :: starEach es X.env := by rfl) (hpl : (backTo pos (starEach es X.env)).any (·.1) = false := by rfl)
    (ht : eval (.Call (.Attribute o m apos) (e :: es) [] pos) X.env = (do
      let ov ← eval o X.env
      standAt apos.atName
      let (f, first) ← holding [ov] (getMethod ov m pl)
      callWith pos f first (backTo pos (starEach (e :: es) X.env)) (backToKw pos (keywordEach [] X.env))) := by rfl) (hK : G.K = X.K := by rfl) :
    PDE G E X (.Call (.Attribute o m apos) (e :: es) [] pos) (mMeth C dsp we wa) := by
  obtain ⟨f, fd, ps, F, hm, hb⟩ := c.ex
  exact pd_meth (pl := pl) c.cls c.no hm F hb passA hr ho ha hst hpl ht hK
theorem pd_meth0C {C : Addr} {N : List Str} {m : Str} {o : Expr} {we : ME} {pos apos : Pos} {pl : Sem Bool} (c : CalM X.prog X.w G X.mg X.base k C N m dsp) (hr : Room k X.A) (ho : PDE G E X o we)
    (ht : eval (.Call (.Attribute o m apos) [] [] pos) X.env = (do
      let ov ← eval o X.env
      standAt apos.atName
      let (f, first) ← holding [ov] (getMethod ov m pl)
      callWith pos f first (backTo pos (starEach [] X.env)) (backToKw pos (keywordEach [] X.env))) := by rfl) (hK : G.K = X.K := by rfl) :
    PDE G E X (.Call (.Attribute o m apos) [] [] pos) (mMeth0 C dsp we) := by
  obtain ⟨f, fd, ps, F, hm, hb⟩ := c.ex
  exact pd_meth0 (pl := pl) c.cls c.no hm F hb passA hr ho ht hK
theorem pd_makeC {C : Addr} {x : Str} {p pos : Pos} {e : Expr} {es : List Expr} {w : MA} (c : CalI X.prog X.w G X.mg X.base k C x dsp) (hr : Room (k + 1) X.A) (ha : PDA G E X (e :: es) w) (hg : Gl X x := by rfl) (hdb : (x == ("__debug__" : Str)) = false := by decide +kernel) (he : starEach (e :: es) X.env = (false, eval e X.env) :: starEach es X.env := by rfl) (hpl : (backTo pos (starEach es X.env)).any (·.1) = false := by rfl) (hK : G.K = X.K := by rfl) :
    PDE G E X (.Call (.Name x p) (e :: es) [] pos) (mMake C dsp w) := by
  obtain ⟨f, fd, ps, F, M, hm, hb⟩ := c.ex
  exact pd_make M F hm hb passA hr ha hg hdb he hpl hK
theorem pd_make0C {C : Addr} {x : Str} {p pos : Pos} (c : CalI X.prog X.w G X.mg X.base k C x dsp) (hr : Room (k + 1) X.A) (hg : Gl X x := by rfl) (hdb : (x == ("__debug__" : Str)) = false := by decide +kernel) (hK : G.K = X.K := by rfl) :
    PDE G E X (.Call (.Name x p) [] [] pos) (mMake C dsp maNil) := by
  obtain ⟨f, fd, ps, F, M, hm, hb⟩ := c.ex
  exact pd_make0 M F hm hb passA hr hg hdb hK
end
end DL

set_option Elab.async false
set_option linter.all false
set_option maxRecDepth 100000
set_option autoImplicit false
namespace DL
open PySem PySem.Spec PyProof.Rows L2
/-! ## readings, step by step -/
section
variable {nx bk ct : DEnv → Sto → Prop} {rt : DQ} {xq : XQ} {ρ : DEnv} {st : Sto} {a b : MS} {w wa wb wc : ME} {t u : MT} {R : DQ} {Rb : Bool → Sto → Prop} {r : MA}
theorem sSeq_i (h : a ⟨fun ρ1 st1 => b ⟨nx, rt, bk, ct, xq⟩ ρ1 st1, rt, bk, ct, xq⟩ ρ st) : sSeq a b ⟨nx, rt, bk, ct, xq⟩ ρ st := h
theorem sNx_i (h : nx ρ st) : sNx ⟨nx, rt, bk, ct, xq⟩ ρ st := h
theorem sBk_i (h : bk ρ st) : sBk ⟨nx, rt, bk, ct, xq⟩ ρ st := h
theorem sCt_i (h : ct ρ st) : sCt ⟨nx, rt, bk, ct, xq⟩ ρ st := h
theorem sRt_i (h : w ρ st rt xq) : sRt w ⟨nx, rt, bk, ct, xq⟩ ρ st := h
theorem sRtN_i (h : rt .non st) : sRtN ⟨nx, rt, bk, ct, xq⟩ ρ st := h
theorem sEx_i (h : w ρ st (fun _ st1 => nx ρ st1) xq) : sEx w ⟨nx, rt, bk, ct, xq⟩ ρ st := h
theorem sIf_i (h : t ρ st (fun c st1 => if c = true then a ⟨nx, rt, bk, ct, xq⟩ ρ st1 else b ⟨nx, rt, bk, ct, xq⟩ ρ st1) xq) : sIf t a b ⟨nx, rt, bk, ct, xq⟩ ρ st := h
theorem sAs_i {g : MG} (h : w ρ st (fun d st1 => g d ρ st1 nx xq) xq) : sAs w g ⟨nx, rt, bk, ct, xq⟩ ρ st := h
theorem sAug_i {i : Nat} {g : Int → Int → Int} {d : D} (e : ρ[i]? = some (some d)) (h : w ρ st (fun y st1 => onI d fun a => onI y fun b => nx (ρ.set i (some (.int (g a b)))) st1) xq) : sAug i g w ⟨nx, rt, bk, ct, xq⟩ ρ st := by
  show (match ρ[i]? with | some (some d) => _ | _ => False); rw [e]; exact h
theorem sSetFld_i {C : Addr} {n : Nat} {we wv : ME} (h : wv ρ st (fun y st1 => we ρ st1 (fun x st2 => onO st2 x C fun j fs => fs.length < 1000 ∧ nx ρ (st2.set j (.ins C (putN n y fs)))) xq) xq) : sSetFld C n we wv ⟨nx, rt, bk, ct, xq⟩ ρ st := h
theorem sAugFld_i {C : Addr} {n : Nat} {g : Int → Int → Int} {we wv : ME} (h : we ρ st (fun x st1 => onO st1 x C fun _ fs => ∃ d, fldN fs n = some d ∧ wv ρ st1 (fun y st2 => onI d fun i => onI y fun j => onO st2 x C fun k fs' => fs'.length < 1000 ∧ nx ρ (st2.set k (.ins C (putN n (.int (g i j)) fs')))) xq) xq) : sAugFld C n g we wv ⟨nx, rt, bk, ct, xq⟩ ρ st := h
theorem sFor_i {wi : MI} {g : MG} (h : wi ρ st (fun xs inv st1 => forD inv g b ⟨nx, rt, bk, ct, xq⟩ xs ρ st1) xq) : sFor wi g b ⟨nx, rt, bk, ct, xq⟩ ρ st := h
theorem gNm_i {i : Nat} {d : D} {k : DEnv → Sto → Prop} {ρ' : DEnv} (e : ρ.set i (some d) = ρ') (h : k ρ' st) : gNm i d ρ st k xq := by subst e; exact h
theorem gTp_i {n : Nat} {ds : List D} {g : MGs} {k : DEnv → Sto → Prop} (e : ds.length = n) (h : g ds ρ st k xq) : gTp n g (.tup ds) ρ st k xq := ⟨e, h⟩
theorem gsCons_i {g : MG} {r : MGs} {d : D} {ds : List D} {k : DEnv → Sto → Prop} (h : g d ρ st (fun ρ1 st1 => r ds ρ1 st1 k xq) xq) : gsCons g r (d :: ds) ρ st k xq := h
theorem gsNil_i {k : DEnv → Sto → Prop} (h : k ρ st) : gsNil [] ρ st k xq := ⟨rfl, h⟩
theorem gSb_i {d : D} {k : DEnv → Sto → Prop} (h : wa ρ st (fun o st1 => wb ρ st1 (fun i st2 => dSet o i d st2 (k ρ)) xq) xq) : gSb wa wb d ρ st k xq := h
theorem mVar_i {i : Nat} {d : D} (e : ρ[i]? = some (some d)) (h : R d st) : mVar i ρ st R xq := by
  show (match ρ[i]? with | some (some d) => _ | _ => False); rw [e]; exact h
theorem mC_i {d : D} (h : R d st) : mC d ρ st R xq := h
theorem mOp_i {r' : D2} (h : wa ρ st (fun x st1 => wb ρ st1 (fun y st2 => r' x y st2 R) xq) xq) : mOp r' wa wb ρ st R xq := h
theorem mUn_i {r' : D → Sto → DQ → Prop} (h : wa ρ st (fun x st1 => r' x st1 R) xq) : mUn r' wa ρ st R xq := h
theorem mTest_i (h : w ρ st (fun d st' => onB d fun b => Rb b st') xq) : mTest w ρ st Rb xq := h
theorem mAnd_i (h : t ρ st (fun c st1 => if c = true then u ρ st1 Rb xq else Rb false st1) xq) : mAnd t u ρ st Rb xq := h
theorem mOr_i (h : t ρ st (fun c st1 => if c = true then Rb true st1 else u ρ st1 Rb xq) xq) : mOr t u ρ st Rb xq := h
theorem mNot_i (h : t ρ st (fun c st1 => Rb (!c) st1) xq) : mNot t ρ st Rb xq := h
theorem mAndV_i (h : wa ρ st (fun d st1 => onB d fun c => if c = true then wb ρ st1 R xq else R (.bl false) st1) xq) : mAndV wa wb ρ st R xq := h
theorem mOrV_i (h : wa ρ st (fun d st1 => onB d fun c => if c = true then R (.bl true) st1 else wb ρ st1 R xq) xq) : mOrV wa wb ρ st R xq := h
theorem mNotV_i (h : wa ρ st (fun d st1 => onB d fun c => R (.bl (!c)) st1) xq) : mNotV wa ρ st R xq := h
theorem mIf_i (h : t ρ st (fun c st1 => if c = true then wa ρ st1 R xq else wb ρ st1 R xq) xq) : mIf t wa wb ρ st R xq := h
theorem mYes_i (h : Rb true st) : mYes ρ st Rb xq := h
theorem onI_i {i : Int} {k : Int → Prop} (h : k i) : onI (.int i) k := h
theorem onB_i {i : Bool} {k : Bool → Prop} (h : k i) : onB (.bl i) k := h
theorem onS_i {i : Str} {k : Str → Prop} (h : k i) : onS (.str i) k := h
theorem maNil_i {k : List D → Sto → Prop} (h : k [] st) : maNil ρ st k xq := h
theorem maCons_i {k : List D → Sto → Prop} (h : w ρ st (fun x st1 => r ρ st1 (fun xs st2 => k (x :: xs) st2) xq) xq) : maCons w r ρ st k xq := h
theorem szN {n : Nat} (h : Nat.ble n sizeLine = true) : n ≤ sizeLine := Nat.le_of_ble_eq_true h
theorem mLst_i (h : r ρ st (fun xs st1 => xs.length ≤ sizeLine ∧ R (.lst xs) st1) xq) : mLst r ρ st R xq := h
theorem mTup_i (h : r ρ st (fun xs st1 => xs.length ≤ sizeLine ∧ R (.tup xs) st1) xq) : mTup r ρ st R xq := h
theorem mLstH_i (h : r ρ st (fun xs st1 => xs.length ≤ sizeLine ∧ R (.hdl st1.length) (st1 ++ [.lst xs])) xq) : mLstH r ρ st R xq := h
theorem mDic_i (h : R (.hdl st.length) (st ++ [.dK []])) : mDic ρ st R xq := h
theorem mCa_i {d : D1} (h : r ρ st (fun ds st1 => d ds st1 R) xq) : mCa d r ρ st R xq := h
theorem mCall_i {s : DSp} (h : r ρ st (fun ds st1 => s ds st1 R xq) xq) : mCall s r ρ st R xq := h
theorem mMeth_i {C : Addr} {s : DSp} (h : w ρ st (fun x st1 => (onO st1 x C fun _ _ => True) ∧ r ρ st1 (fun ds st2 => s (x :: ds) st2 R xq) xq) xq) : mMeth C s w r ρ st R xq := h
theorem mMeth0_i {C : Addr} {s : DSp} (h : w ρ st (fun x st1 => (onO st1 x C fun _ _ => True) ∧ s [x] st1 R xq) xq) : mMeth0 C s w ρ st R xq := h
theorem mMake_i {C : Addr} {s : DSp} (h : r ρ st (fun ds st1 => s (.hdl st1.length :: ds) (st1 ++ [.ins C []]) (fun d st2 => d = .non ∧ R (.hdl st1.length) st2) xq) xq) : mMake C s r ρ st R xq := h
theorem mFld_i {C : Addr} {n : Nat} (h : w ρ st (fun x st1 => onO st1 x C fun _ fs => ∃ d, fldN fs n = some d ∧ R d st1) xq) : mFld C n w ρ st R xq := h
theorem mMe_i {d : DM} (h : w ρ st (fun x st1 => isLD st1 x ∧ r ρ st1 (fun xs st2 => d x xs st2 R) xq) xq) : mMe d w r ρ st R xq := h
theorem mMe0_i {d : DM} (h : w ρ st (fun x st1 => isLD st1 x ∧ d x [] st1 R) xq) : mMe0 d w ρ st R xq := h
theorem mGet1_i (h : wa ρ st (fun x st1 => isKD st1 x ∧ wb ρ st1 (fun k st2 => onK st2 x fun _ kvs => ∃ key, toK k = some key ∧ R ((valD kvs key).getD .non) st2) xq) xq) : mGet1 wa wb ρ st R xq := h
theorem mGet2_i (h : wa ρ st (fun x st1 => isKD st1 x ∧ wb ρ st1 (fun k st2 => wc ρ st2 (fun z st3 => onK st3 x fun _ kvs => ∃ key, toK k = some key ∧ R ((valD kvs key).getD z) st3) xq) xq) xq) : mGet2 wa wb wc ρ st R xq := h
theorem mSetd_i (h : wa ρ st (fun x st1 => isKD st1 x ∧ wb ρ st1 (fun k st2 => wc ρ st2 (fun z st3 => onK st3 x fun j kvs => kvs.length < sizeLine ∧ ∃ key, toK k = some key ∧ (match valD kvs key with | some d => R d st3 | none => R z (st3.set j (.dK (putD kvs key z))))) xq) xq) xq) : mSetd wa wb wc ρ st R xq := h
theorem mDPop1_i (h : wa ρ st (fun x st1 => isKD st1 x ∧ wb ρ st1 (fun k st2 => onK st2 x fun j kvs => ∃ key d, toK k = some key ∧ valD kvs key = some d ∧ R d (st2.set j (.dK (dropD kvs key)))) xq) xq) : mDPop1 wa wb ρ st R xq := h
theorem mSl_i {wl wh : MO} (h : w ρ st (fun x st1 => wl ρ st1 (fun lo st2 => wh ρ st2 (fun hi st3 => dSl x lo hi st3 R) xq) xq) xq) : mSl w wl wh ρ st R xq := h
theorem mSlH_i {wl wh : MO} (h : w ρ st (fun x st1 => wl ρ st1 (fun lo st2 => wh ρ st2 (fun hi st3 => dSlH x lo hi st3 R) xq) xq) xq) : mSlH w wl wh ρ st R xq := h
theorem mSlStep_i (h : mOp dStep wa wb ρ st R xq) : mSlStep wa wb ρ st R xq := h
theorem moNone_i {k : Option Int → Sto → Prop} (h : k none st) : moNone ρ st k xq := h
theorem moSome_i {k : Option Int → Sto → Prop} (h : w ρ st (fun d st1 => onI d fun i => k (some i) st1) xq) : moSome w ρ st k xq := h
theorem mLenSet_i (h : w ρ st (fun d st1 => onL st1 d fun xs => ∃ ns, allI xs = some ns ∧ ns.length ≤ 4000 ∧ R (.int (setLen ns : Nat)) st1) xq) : mLenSet w ρ st R xq := h
theorem mLc_i {wi : MI} {g : Tgt} {vs : List Nat} (h : wi ρ st (fun xs inv st1 => lcD inv g t w (wipeD ρ vs) (fun acc st2 => R (.lst acc) st2) xs [] st1) xq) : mLc wi g t w vs ρ st R xq := h
theorem mLcH_i {wi : MI} {g : Tgt} {vs : List Nat} (h : wi ρ st (fun xs inv st1 => lcD inv g t w (wipeD ρ vs) (fun acc st2 => R (.hdl st2.length) (st2 ++ [.lst acc])) xs [] st1) xq) : mLcH wi g t w vs ρ st R xq := h
theorem miSeq_i {k : List D → (Sto → Prop) → Sto → Prop} (h : w ρ st (fun d st1 => dIt d st1 k) xq) : miSeq w ρ st k xq := h
theorem miR1_i {k : List D → (Sto → Prop) → Sto → Prop} (h : r ρ st (fun ds st1 => match ds with | [.int j] => -(2 ^ 62) ≤ j ∧ j < 2 ^ 62 ∧ k (rngD 0 j.toNat) noInv st1 | _ => False) xq) : miR1 r ρ st k xq := h
theorem miR2_i {k : List D → (Sto → Prop) → Sto → Prop} (h : r ρ st (fun ds st1 => match ds with | [.int i, .int j] => (-(2 ^ 62) ≤ i ∧ i < 2 ^ 62 ∧ -(2 ^ 62) ≤ j ∧ j < 2 ^ 62) ∧ k (rngD i (j - i).toNat) noInv st1 | _ => False) xq) : miR2 r ρ st k xq := h
theorem miR3n_i {k : List D → (Sto → Prop) → Sto → Prop} (h : r ρ st (fun ds st1 => match ds with | [.int i, .int j, .int c] => c = -1 ∧ (-(2 ^ 62) ≤ i ∧ i < 2 ^ 62 ∧ -(2 ^ 62) ≤ j ∧ j < 2 ^ 62) ∧ k (rngDn i (i - j).toNat) noInv st1 | _ => False) xq) : miR3n r ρ st k xq := h
theorem dIt_l {xs : List D} {k : List D → (Sto → Prop) → Sto → Prop} (h : k xs noInv st) : dIt (.lst xs) st k := h
theorem dIt_s {xs : List D} {k : List D → (Sto → Prop) → Sto → Prop} (h : k xs noInv st) : dIt (.scr xs) st k := h
theorem dIt_t {xs : List D} {k : List D → (Sto → Prop) → Sto → Prop} (h : k xs noInv st) : dIt (.tup xs) st k := h
theorem dIt_h {j : Nat} {xs : List D} {k : List D → (Sto → Prop) → Sto → Prop} (e : st[j]? = some (.lst xs)) (h : k xs (fun st' => st'[j]? = some (.lst xs)) st) : dIt (.hdl j) st k := by rw [dIt_hdl e]; exact h
/-! ### values -/
theorem dII_i {C : Int → Int → Prop} {g : Int → Int → D} {i j : Int} (c : C i j) (h : R (g i j) st) : dII C g (.int i) (.int j) st R := ⟨c, h⟩
theorem dII0_i {g : Int → Int → D} {i j : Int} (h : R (g i j) st) : dII0 g (.int i) (.int j) st R := h
theorem dAdd_i {i j : Int} (h : R (.int (i + j)) st) : dAdd (.int i) (.int j) st R := h
theorem dAdd_l {x y : D} {xs ys : List D} (e1 : dr st x = .lst xs) (e2 : dr st y = .lst ys) (hl : xs.length + ys.length ≤ sizeLine) (h : R (.lst (xs ++ ys)) st) : dAdd x y st R := by
  unfold dAdd; rw [e1, e2]; exact ⟨hl, h⟩
theorem dAddH_l {x y : D} {xs ys : List D} (e1 : dr st x = .lst xs) (e2 : dr st y = .lst ys) (hl : xs.length + ys.length ≤ sizeLine) (h : R (.hdl st.length) (st ++ [.lst (xs ++ ys)])) : dAddH x y st R := by
  unfold dAddH; rw [e1, e2]; exact ⟨hl, h⟩
theorem dMul_i {i j : Int} (c : CMulX i j) (h : R (.int (i * j)) st) : dMul (.int i) (.int j) st R := ⟨c, h⟩
theorem dNeg_i {i : Int} (h : R (.int (-i)) st) : dNeg (.int i) st R := h
theorem dEQ_i {n : Bool} {i j : Int} (h : R (.bl (xorB n (decide (i = j)))) st) : dEQ n (.int i) (.int j) st R := h
theorem dEQ_b {n : Bool} {i j : Bool} (h : R (.bl (xorB n (decide (i = j)))) st) : dEQ n (.bl i) (.bl j) st R := h
theorem dIsN_i {x : D} (h : R (.bl (isNon x)) st) : dIsN x .non st R := h
theorem dNotN_i {x : D} (h : R (.bl (!isNon x)) st) : dNotN x .non st R := h
theorem dIx_h {j : Nat} {xs : List D} {i : Int} {d : D} (e : st[j]? = some (.lst xs)) (q : atI xs i = some d) (h : R d st) : dIx (.hdl j) (.int i) st R := by
  unfold dIx; rw [dr_hdl e]; exact ⟨d, q, h⟩
theorem dIx_l {xs : List D} {i : Int} {d : D} (q : atI xs i = some d) (h : R d st) : dIx (.lst xs) (.int i) st R := ⟨d, q, h⟩
theorem dIx_s {xs : List D} {i : Int} {d : D} (q : atI xs i = some d) (h : R d st) : dIx (.scr xs) (.int i) st R := ⟨d, q, h⟩
theorem dIx_t {xs : List D} {i : Int} {d : D} (q : atI xs i = some d) (h : R d st) : dIx (.tup xs) (.int i) st R := ⟨d, q, h⟩
theorem dSet_l {j : Nat} {xs : List D} {n : Int} {m : Nat} {v : D} {k : Sto → Prop} (e : st[j]? = some (.lst xs)) (q : ixN xs.length n = some m) (h : k (st.set j (.lst (xs.set m v)))) : dSet (.hdl j) (.int n) v st k := by
  simp only [dSet, e, onI]; exact ⟨m, q, h⟩
theorem dSet_k {j : Nat} {kvs : List (Key × D)} {i v : D} {key : Key} {k : Sto → Prop} (e : st[j]? = some (.dK kvs)) (hl : kvs.length < sizeLine) (q : toK i = some key) (h : k (st.set j (.dK (putD kvs key v)))) : dSet (.hdl j) i v st k := by
  simp only [dSet, e]; exact ⟨hl, key, q, h⟩
theorem dLen_q {d : D} {xs : List D} (e : dr st d = .lst xs ∨ dr st d = .scr xs ∨ dr st d = .tup xs) (h : R (.int xs.length) st) : dLen [d] st R := by
  unfold dLen
  rcases e with e | e | e <;> (simp only [e]; exact h)
theorem dLen_l {xs : List D} (h : R (.int xs.length) st) : dLen [.lst xs] st R := h
theorem dLen_s {xs : List D} (h : R (.int xs.length) st) : dLen [.scr xs] st R := h
theorem dLen_t {xs : List D} (h : R (.int xs.length) st) : dLen [.tup xs] st R := h
theorem dLen_h {j : Nat} {xs : List D} (e : st[j]? = some (.lst xs)) (h : R (.int xs.length) st) : dLen [.hdl j] st R := dLen_q (.inl (dr_hdl e)) h
theorem isLD_h {j : Nat} {xs : List D} (e : st[j]? = some (.lst xs)) : isLD st (.hdl j) := by unfold isLD; rw [onL_hdl e]; trivial
theorem isKD_h {j : Nat} {xs : List (Key × D)} (e : st[j]? = some (.dK xs)) : isKD st (.hdl j) := by unfold isKD; rw [onK_hdl e]; trivial
theorem onO_h {j : Nat} {C : Addr} {fs : List (Nat × D)} {k : Nat → List (Nat × D) → Prop} (e : st[j]? = some (.ins C fs)) (h : k j fs) : onO st (.hdl j) C k := by rw [onO_hdl e]; exact h
theorem onK_h {j : Nat} {kvs : List (Key × D)} {k : Nat → List (Key × D) → Prop} (e : st[j]? = some (.dK kvs)) (h : k j kvs) : onK st (.hdl j) k := by rw [onK_hdl e]; exact h
theorem dApp_h {j : Nat} {xs : List D} {y : D} (e : st[j]? = some (.lst xs)) (hl : xs.length < sizeLine) (h : R .non (st.set j (.lst (xs ++ [y])))) : dApp (.hdl j) [y] st R := by
  simp only [dApp, onH_hdl e]; exact ⟨hl, h⟩
theorem dPopAt_h {j : Nat} {xs : List D} {i : Int} {k : Nat} {d : D} (e : st[j]? = some (.lst xs)) (q : seqIndex? i xs.length = some k) (q2 : xs[k]? = some d) (b1 : -(2 ^ 63) ≤ i) (b2 : i < 2 ^ 63) (h : R d (st.set j (.lst (xs.eraseIdx k)))) : dPopAt (.hdl j) [.int i] st R := by
  simp only [dPopAt, onH_hdl e]; exact ⟨k, d, q, q2, b1, b2, h⟩
theorem dIns_h {j : Nat} {xs : List D} {i : Int} {y : D} (e : st[j]? = some (.lst xs)) (hl : xs.length < sizeLine) (b1 : 0 ≤ i) (b2 : i < 2 ^ 63) (h : R .non (st.set j (.lst (xs.take i.toNat ++ [y] ++ xs.drop i.toNat)))) : dIns (.hdl j) [.int i, y] st R := by
  simp only [dIns, onH_hdl e]; exact ⟨hl, b1, b2, h⟩
theorem dInt_i {i : Int} (h : R (.int i) st) : dInt [.int i] st R := h
theorem dInt_b {i : Bool} (h : R (.int (if i then 1 else 0)) st) : dInt [.bl i] st R := h
theorem dII1_i {g : Int → Int → D} {i j : Int} (h : R (g i j) st) : dII1 g [.int i, .int j] st R := h
theorem dList_l {xs : List D} (h : R (.lst xs) st) : dList [.lst xs] st R := h
theorem dList_s {xs : List D} (h : R (.lst xs) st) : dList [.scr xs] st R := h
theorem dList_t {xs : List D} (h : R (.lst xs) st) : dList [.tup xs] st R := h
theorem dList_h {j : Nat} {xs : List D} (e : st[j]? = some (.lst xs)) (h : R (.lst xs) st) : dList [.hdl j] st R := by
  simp only [dList, dListH, dTuple, onQ_hdl e]; exact h
theorem dListH_l {xs : List D} (h : R (.hdl st.length) (st ++ [.lst xs])) : dListH [.lst xs] st R := h
theorem dListH_s {xs : List D} (h : R (.hdl st.length) (st ++ [.lst xs])) : dListH [.scr xs] st R := h
theorem dListH_t {xs : List D} (h : R (.hdl st.length) (st ++ [.lst xs])) : dListH [.tup xs] st R := h
theorem dListH_h {j : Nat} {xs : List D} (e : st[j]? = some (.lst xs)) (h : R (.hdl st.length) (st ++ [.lst xs])) : dListH [.hdl j] st R := by
  simp only [dList, dListH, dTuple, onQ_hdl e]; exact h
theorem dTuple_l {xs : List D} (h : R (.tup xs) st) : dTuple [.lst xs] st R := h
theorem dTuple_t {xs : List D} (h : R (.tup xs) st) : dTuple [.tup xs] st R := h
theorem dTuple_h {j : Nat} {xs : List D} (e : st[j]? = some (.lst xs)) (h : R (.tup xs) st) : dTuple [.hdl j] st R := by
  simp only [dList, dListH, dTuple, onQ_hdl e]; exact h
theorem dAll_l {bs : List Bool} (h : R (.bl (bs.all id)) st) : dAll [.lst (bs.map D.bl)] st R := ⟨bs, allB_bls bs, h⟩
theorem dDict_h {j : Nat} {kvs : List (Key × D)} (e : st[j]? = some (.dK kvs)) (h : R (.hdl st.length) (st ++ [.dK kvs])) : dDict [.hdl j] st R := by
  simp only [dDict, onK_hdl e]; exact h
theorem dIsB_b {a b : Bool} (h : R (.bl (decide (a = b))) st) : dIsB (.bl a) (.bl b) st R := h
theorem dIsB_n {b : Bool} (h : R (.bl false) st) : dIsB .non (.bl b) st R := h
theorem dNotB_b {a b : Bool} (h : R (.bl (!decide (a = b))) st) : dNotB (.bl a) (.bl b) st R := h
theorem dNotB_n {b : Bool} (h : R (.bl true) st) : dNotB .non (.bl b) st R := h
theorem ifT {A B : Prop} {c : Bool} (e : c = true) (h : A) : if c = true then A else B := by rw [if_pos e]; exact h
theorem ifF {A B : Prop} {c : Bool} (e : c = false) (h : B) : if c = true then A else B := by rw [if_neg (by rw [e]; decide)]; exact h
theorem ifD {A B : Prop} {c : Prop} [Decidable c] (h1 : c → A) (h2 : ¬ c → B) : if decide c = true then A else B := by
  by_cases h : c
  · rw [if_pos (decide_eq_true h)]; exact h1 h
  · rw [if_neg (by simp [h])]; exact h2 h
theorem ifB {A B : Prop} {c : Bool} (h1 : c = true → A) (h2 : c = false → B) : if c = true then A else B := by
  cases c
  · exact h2 rfl
  · exact h1 rfl
theorem tnm_i {i : Nat} {d : D} {k : DEnv → Prop} {ρ' : DEnv} (e : ρ.set i (some d) = ρ') (h : k ρ') : Tgt.run (.nm i) d ρ k := by subst e; exact h
theorem ttp_i {ts : List Tgt} {ds : List D} {k : DEnv → Prop} (e : ds.length = ts.length) (h : Tgt.runs ts ds ρ k) : Tgt.run (.tp ts) (.tup ds) ρ k := ⟨e, h⟩
theorem ttn_i {k : DEnv → Prop} (h : k ρ) : Tgt.runs [] [] ρ k := ⟨rfl, h⟩
theorem ttc_i {t : Tgt} {ts : List Tgt} {d : D} {ds : List D} {k : DEnv → Prop} (h : Tgt.run t d ρ fun ρ1 => Tgt.runs ts ds ρ1 k) : Tgt.runs (t :: ts) (d :: ds) ρ k := h
theorem dIt_dr {d : D} {xs : List D} {k : List D → (Sto → Prop) → Sto → Prop} (e : dr st d = .lst xs) (h : ∀ inv : Sto → Prop, (∀ st', dr st' d = .lst xs → inv st') → k xs inv st) : dIt d st k := by
  cases d with
  | lst ys => cases e; exact dIt_l (h _ fun _ _ => trivial)
  | hdl j =>
    have e' : st[j]? = some (.lst xs) := by
      simp only [dr] at e
      split at e
      · rename_i q; cases e; exact q
      · cases e
    refine dIt_h e' (h _ fun st' q => ?_)
    simp only [dr] at q
    split at q
    · rename_i q'; cases q; exact q'
    · cases q
  | non => cases e
  | bl _ => cases e
  | int _ => cases e
  | str _ => cases e
  | tup _ => cases e
  | scr _ => cases e
  | raw _ => cases e
  | exc _ => cases e
theorem dListH_q {d : D} {xs : List D} (e : dr st d = .lst xs) (h : R (.hdl st.length) (st ++ [.lst xs])) : dListH [d] st R := by
  simp only [dListH, onQ, e]; exact h
theorem dList_q {d : D} {xs : List D} (e : dr st d = .lst xs) (h : R (.lst xs) st) : dList [d] st R := by
  simp only [dList, onQ, e]; exact h
end
/-! ### loops by what is left -/
theorem forD_ind {inv : Sto → Prop} {g : MG} {b : MS} {e : DEnds} (P : List D → DEnv → Sto → Prop) (hnil : ∀ ρ st, P [] ρ st → inv st ∧ e.nx ρ st)
    (hcons : ∀ x xs ρ st (K : DEnv → Sto → Prop), P (x :: xs) ρ st → (∀ ρ' st', P xs ρ' st' → K ρ' st') → inv st ∧ g x ρ st (fun ρ1 st1 => b ⟨K, e.rt, e.nx, K, e.xq⟩ ρ1 st1) e.xq) : ∀ xs ρ st, P xs ρ st → forD inv g b e xs ρ st
  | [], ρ, st, h => hnil ρ st h
  | x :: xs, ρ, st, h => hcons x xs ρ st (forD inv g b e xs) h (forD_ind P hnil hcons xs)
theorem lcD_ind {inv : Sto → Prop} {g : Tgt} {tt : MT} {te : ME} {ρ : DEnv} {R : List D → Sto → Prop} (P : List D → List D → Sto → Prop) (hnil : ∀ acc st, P [] acc st → inv st ∧ R acc st)
    (hcons : ∀ x xs acc st (K : List D → Sto → Prop), P (x :: xs) acc st → (∀ acc' st', P xs acc' st' → K acc' st') → inv st ∧ g.run x ρ fun ρ1 => tt ρ1 st (fun c st1 => if c = true then te ρ1 st1 (fun d st2 => acc.length < sizeLine ∧ K (acc ++ [d]) st2) noX else K acc st1) noX) :
    ∀ xs acc st, P xs acc st → lcD inv g tt te ρ R xs acc st
  | [], acc, st, h => hnil acc st h
  | x :: xs, acc, st, h => hcons x xs acc st (lcD inv g tt te ρ R xs) h (lcD_ind P hnil hcons xs)
end DL

set_option Elab.async false
set_option linter.all false
set_option maxRecDepth 100000
set_option autoImplicit false
namespace DL
open PySem PySem.Spec PyProof.Rows L2

/-! ## a starred target -/
/-- what a starred target makes of the items -/
def starV {α : Type} (n k : Nat) (xs : List α) (mid : List α → α) : List α := xs.take k ++ [mid ((xs.drop k).take (xs.length + 1 - n))] ++ (xs.drop k).drop (xs.length + 1 - n)
theorem unpk_star {P : Program} {w : World} {A : Around} {E : Value → Shared → Prop} {s : Shared} {a : Addr} {its : Array Value} {n k : Nat} {Q : List Value → Shared → Prop}
    (hh : A.handled = none) (hk : k < n) (hn : n ≤ its.size + 1) (hz : its.size ≤ sizeLine) (hl : s.heap.IsList a its ∨ IsTup s.heap a its)
    (q : ∀ (h2 : Heap) (tk : Nat), (∀ b o, s.heap.get? b = some o → h2.get? b = some o) →
      Q (its.toList.take k ++ [.ref h2.objs.size] ++ (its.toList.drop k).drop (its.size + 1 - n)) { s with heap := h2.push { cls := .type "list", data := .seq ((its.toList.drop k).take (its.size + 1 - n)).toArray }, toks := tk }) :
    wpAny (model P w) A (unpackItems (.ref a) n (some k)) Q E s := by
  have fl : (its.toList.take k).length = k := by rw [List.length_take, Array.length_toList]; omega
  have rl : (its.toList.drop k).length = its.size - k := by rw [List.length_drop, Array.length_toList]
  have rm : (its.toList.drop k).length - (n - 1 - k) = its.size + 1 - n := by rw [rl]; omega
  have last : ∀ (h2 : Heap) (tk : Nat), (∀ b o, s.heap.get? b = some o → h2.get? b = some o) → wpAny (model P w) A (newList ((its.toList.drop k).take ((its.toList.drop k).length - (n - 1 - k))) >>= fun d => pure (its.toList.take k ++ [d] ++ (its.toList.drop k).drop ((its.toList.drop k).length - (n - 1 - k)))) Q E { s with heap := h2, toks := tk } := by
    intro h2 tk kp
    rw [rm]
    exact wpAny_bind (wpAny_newList (wpAny_pure (q h2 tk kp)) (by rw [List.length_take, rl]; omega))
  rcases hl with hl | hl
  · have ne : a ≠ s.heap.objs.size := by obtain ⟨o, ho, _⟩ := hl; exact Nat.ne_of_lt (Heap.lt_size ho)
    unfold unpackItems
    refine wpAny_bind ?_; unfold notIterableAtAll; refine wpAny_bind (wpAny_specialOf hl.typeIs slot_list_iter.lookup (wpAny_pure ?_)); simp only [Bool.false_eq_true, if_false]; refine wpAny_bind (wpAny_holding (wpAny_pyIter_list hl ?_)); refine wpAny_bind (wpAny_holding (PySem.W.kun_draw ne k 0 _ _ ⟨_, Heap.get?_push_size _ rfl, rfl, rfl⟩ (hl.push _) (by omega) fun h1 it1 sb1 => ?_))
    rw [Nat.zero_add] at it1
    have hl1 : h1.IsList a its := (hl.push _).extBut sb1.extBut ne
    have it2 := it1
    obtain ⟨oi, ei, _⟩ := it2
    have hl2 := hl1
    obtain ⟨ol, el, _⟩ := hl2
    rw [List.drop_zero, if_neg (by rw [fl]; omega)]
    refine wpAny_bind (wpAny_holding (PySem.W.kun_collect (s := { s with heap := h1 }) (T := "list_iterator") (.inr (.inr (.inl rfl))) (Walks.list (A := A.in1) hh s.heap.objs.size a ne its) (fun j u st => st.1.typeIs) (k := k) (by omega) ⟨it1, hl1⟩ (Heap.lt_size ei) (Heap.lt_size el) (fun h2 tk kp => ?_) hz))
    show wpAny _ _ (if (its.toList.drop k).length < n - 1 - k then _ else _) _ _ _
    rw [if_neg (by rw [rl]; omega)]
    exact last h2 tk fun b o e => kp b o (Nat.ne_of_lt (Heap.lt_size e)) (sb1.extBut b o (Nat.ne_of_lt (Heap.lt_size e)) (Heap.get?_push_of_some _ e))
  · have ne : a ≠ s.heap.objs.size := by obtain ⟨o, ho, _⟩ := hl; exact Nat.ne_of_lt (Heap.lt_size ho)
    unfold unpackItems
    refine wpAny_bind ?_; unfold notIterableAtAll; refine wpAny_bind (wpAny_specialOf hl.typeIs slot_tuple_iter.lookup (wpAny_pure ?_)); simp only [Bool.false_eq_true, if_false]; refine wpAny_bind (wpAny_holding (iter_tuple hl ?_)); refine wpAny_bind (wpAny_holding (draw_tuple ne k 0 _ _ ⟨_, Heap.get?_push_size _ rfl, rfl, rfl⟩ (hl.push _) (by omega) fun h1 it1 sb1 => ?_))
    rw [Nat.zero_add] at it1
    have hl1 : IsTup h1 a its := (hl.push _).extBut sb1.extBut ne
    have it2 := it1
    obtain ⟨oi, ei, _⟩ := it2
    have hl2 := hl1
    obtain ⟨ol, el, _⟩ := hl2
    rw [List.drop_zero, if_neg (by rw [fl]; omega)]
    refine wpAny_bind (wpAny_holding (PySem.W.kun_collect (s := { s with heap := h1 }) (T := "tuple_iterator") (.inr (.inr (.inr rfl))) (Walks.tuple (A := A.in1) hh s.heap.objs.size a ne its) (fun j u st => st.1.typeIs) (k := k) (by omega) ⟨it1, hl1⟩ (Heap.lt_size ei) (Heap.lt_size el) (fun h2 tk kp => ?_) hz))
    show wpAny _ _ (if (its.toList.drop k).length < n - 1 - k then _ else _) _ _ _
    rw [if_neg (by rw [rl]; omega)]
    exact last h2 tk fun b o e => kp b o (Nat.ne_of_lt (Heap.lt_size e)) (sb1.extBut b o (Nat.ne_of_lt (Heap.lt_size e)) (Heap.get?_push_of_some _ e))
theorem vals1 {v : V} {u : Value} (h : RelV v u) : Vals [v] [u] := .cons h .nil
def gTupS (K : PySem.W.Frag) (n k : Nat) (t : TGs) : TG := fun v σ H Q => ∃ a xs, v = .ref a ∧ (SqL K H a xs ∨ SqT K H a xs) ∧ n ≤ xs.length + 1 ∧
  ∀ p, H p = none → t (xs.take k ++ [.ref p] ++ (xs.drop k).drop (xs.length + 1 - n)) σ (upd H p (.lst ((xs.drop k).take (xs.length + 1 - n)))) Q
section
variable {X : Cx}
theorem vtake {vs : List V} {us : List Value} (h : Vals vs us) : ∀ n, Vals (vs.take n) (us.take n) := fun n => by
  induction h generalizing n with
  | nil => simp; exact .nil
  | cons a _ ih =>
    cases n with
    | zero => exact .nil
    | succ n => exact .cons a (ih n)
theorem pgs_consS {e : Expr} {es : List Expr} {t : TG} {u : TGs} {sp : Pos} (h1 : PG X e t) (h2 : PGs X es u)
    (hs : (assignEach (.Starred e sp :: es) X.env).map (·.2) = assign e X.env :: (assignEach es X.env).map (·.2) := by rfl) : PGs X (.Starred e sp :: es) (gCons t u) := by
  refine ⟨fun pins s σ H vs us Q I r h => ?_⟩
  obtain ⟨v, vr, rfl, h⟩ := h
  cases r with
  | cons r rr =>
    rw [hs]
    refine assignInOrder_cons (thn (h1.run pins s σ H _ _ _ I r h) fun _ s1 ⟨σ1, H1, I1, q1⟩ => h2.run pins s1 σ1 H1 _ _ Q I1 rr q1)
theorem pg_tupS {es : List Expr} {j : Nat} {t : TGs} {n k : Nat} {pos : Pos} (hc : X.calm = true) (h : PGs X es t)
    (hn : (assignEach es X.env).length = n := by rfl) (hst : (assignEach es X.env).findIdx? (·.1) = some k := by rfl) (hk : k < n := by decide) : PG X (.Tuple es j pos) (gTupS X.K n k t) := by
  refine ⟨fun pins s σ H v u Q I r hw => ?_⟩
  obtain ⟨a, xs, rfl, hq, hl, hw⟩ := hw
  cases r
  obtain ⟨its, rv, ht, hz⟩ : ∃ its : List Value, Vals xs its ∧ (s.heap.IsList a its.toArray ∨ IsTup s.heap a its.toArray) ∧ xs.length ≤ sizeLine := by
    rcases hq with hq | hq
    · obtain ⟨its, rv, p, hz⟩ := I.list hq
      exact ⟨its, rv, .inl p.isList, hz⟩
    · obtain ⟨its, rv, p, hz⟩ := I.tuple hq
      exact ⟨its, rv, .inr p, hz⟩
  have len : xs.length = its.length := rv.length
  rw [assign_Tuple]
  refine wpAny_bind (wpAny_standAt ?_)
  unfold unpack
  rw [hn, hst]
  refine wpAny_bind (wpAny_holding (unpk_star (I.ok.hd hc) hk (by simp [← len]; exact hl) (by simp [← len]; exact hz) ht fun h2 tk kp => ?_))
  have I1 : Inv X pins σ H { s with heap := h2, toks := tk } := I.kept (t' := tk) kp
  have I2 : Inv X pins σ (upd H h2.objs.size (.lst ((xs.drop k).take (xs.length + 1 - n)))) { s with heap := h2.push { cls := .type "list", data := .seq ((its.drop k).take (xs.length + 1 - n)).toArray }, toks := tk } := by
    refine I1.laid (t' := tk) (o := .lst _) (fun b ob q => Heap.get?_push_of_some _ q) (Nat.le_refl _) ⟨?_, _, 0, vtake (rv.drop k) _, Heap.get?_push_size _ rfl⟩
    rw [List.length_take, List.length_drop]; omega
  have I2' : Inv X pins σ (upd H h2.objs.size (.lst ((xs.drop k).take (xs.length + 1 - n)))) { s with heap := h2.push { cls := .type "list", data := .seq ((its.toArray.toList.drop k).take (its.toArray.size + 1 - n)).toArray }, toks := tk } := by
    have e : its.toArray.size = xs.length := by rw [len]; simp
    rw [e]; exact I2
  refine h.run pins _ σ _ _ _ Q I2' ?_ (hw _ (I1.hok.fresh (Nat.le_refl _)))
  have e : its.toArray.size = xs.length := by rw [len]; simp
  rw [e]
  exact ((vtake rv k).append (vals1 (v := .ref _) (u := .ref _) rfl)).append ((rv.drop k).drop _)
end
@[simp] def gTpS (n k : Nat) (r : MGs) : MG := fun d ρ st q xq => (∃ xs, (dr st d = .lst xs ∨ dr st d = .tup xs) ∧ n ≤ xs.length + 1 ∧ r (starV n k xs .lst) ρ st q xq)
section
variable {G : Gm} {E : XK} {X : Cx}
theorem gds_consS {e : Expr} {es : List Expr} {g : MG} {r : MGs} {sp : Pos} (h1 : PDG G E X e g) (h2 : PDGs G E X es r) (hs : (assignEach (.Starred e sp :: es) X.env).map (·.2) = assign e X.env :: (assignEach es X.env).map (·.2) := by rfl) : PDGs G E X (.Starred e sp :: es) (gsCons g r) :=
  PGs.weak (pgs_consS h1 h2 hs) fun v σ H Q ⟨W, ds, ρ, st, k, xq, rel, re, rv, w, o⟩ => by
    unfold gsCons at w
    split at w
    · simp only [RpL] at rv
      obtain ⟨v1, r1, rfl, q1, q2⟩ := rv
      exact ⟨v1, r1, rfl, W, _, ρ, st, _, xq, rel, re, q1, w, ⟨fun W1 H1 ρ1 σ1 st1 l1 rel1 re1 w1 => ⟨W1, _, ρ1, st1, k, xq, rel1, re1, q2.le l1, w1, o.le l1⟩, o.xq⟩⟩
    · cases w
theorem gd_tpS {es : List Expr} {j : Nat} {r : MGs} {n k : Nat} {pos : Pos} (h : PDGs G E X es r) (hc : X.calm = true := by rfl) (hn : (assignEach es X.env).length = n := by rfl) (hst : (assignEach es X.env).findIdx? (·.1) = some k := by rfl) (hk : k < n := by decide) (hK : G.K = X.K := by rfl) : PDG G E X (.Tuple es j pos) (gTpS n k r) :=
  PG.weak (pg_tupS hc h hn hst hk) fun v σ H Q ⟨W, d, ρ, st, q, xq, rel, re, rv, w, o⟩ => by
    obtain ⟨xs, hx, hl, w⟩ := w
    obtain ⟨a, vs, rfl, h1, h2⟩ : ∃ a vs, v = .ref a ∧ (SqL G.K H a vs ∨ SqT G.K H a vs) ∧ RpL G.K W H xs vs := by
      rcases hx with hx | hx
      · obtain ⟨a, vs, q1, q2, q3⟩ := dr_lst rel rv hx
        exact ⟨a, vs, q1, .inl (SqL.of q2), q3⟩
      · obtain rfl := dr_tup hx
        obtain ⟨a, vs, q1, q2, q3⟩ := tup_sq rv
        exact ⟨a, vs, q1, .inr q2, q3⟩
    rw [← hK]
    refine ⟨a, vs, rfl, h1, by rw [h2.length]; exact hl, fun p hp => ?_⟩
    have rn := newL (ds := (xs.drop k).take (xs.length + 1 - n)) (vs := (vs.drop k).take (xs.length + 1 - n)) rel hp ((h2.drop k).take _)
    refine ⟨W, _, ρ, st, q, xq, rel.fresh hp, re.le (Le.fresh hp), ?_, w, o.le (Le.fresh hp)⟩
    have l := h2.le (Le.fresh (o := .lst ((vs.drop k).take (xs.length + 1 - n))) hp)
    have el := h2.length
    rw [el]
    exact ((l.take k).append (.one rn)).append ((l.drop k).drop _)
end

/-! ## keyword-only parameters -/
structure CalK (P : Program) (w : World) (G : Gm) (mg : Str → Option Value) (base : Heap) (k : Nat) (x : Str) (n : Nat) (ks : List Str) (dsp : DSp) : Prop where
  ex : ∃ f fd ps, FnD P w G mg base CX0 k f fd ps dsp ∧ mg x = some (.ref f) ∧ PySem.W.keepIn G.K (.ref f) = true ∧ KBn G.K fd ps n ks (fun us ws => us ++ ws) (fun vs zs => vs ++ zs)
/-- called without its keyword: the default is () -/
structure CalD (P : Program) (w : World) (G : Gm) (mg : Str → Option Value) (base : Heap) (k : Nat) (x : Str) (dsp : DSp) : Prop where
  ex : ∃ f fd ps T, FnD P w G mg base CX0 k f fd ps dsp ∧ mg x = some (.ref f) ∧ PySem.W.keepIn G.K (.ref f) = true ∧ Binds G.K fd ps [.ref T] ∧ SqT G.K (fun _ => none) T []
@[simp] def mCallK (n m : Nat) (dsp : DSp) (w wk : MA) : ME := fun ρ st R xq => w ρ st (fun ds st1 => wk ρ st1 (fun zs st2 => ds.length = n ∧ zs.length = m ∧ dsp (ds ++ zs) st2 R xq) xq) xq
@[simp] def mCallD (dsp : DSp) (w : MA) : ME := fun ρ st R xq => w ρ st (fun ds st1 => dsp (ds ++ [.tup []]) st1 R xq) xq
def PDK (G : Gm) (E : XK) (X : Cx) (kws : List Keyword) (w : MA) : Prop := PK X kws (tDA G E w)
theorem PK.weak {X : Cx} {kws : List Keyword} {t t' : TA} (h : PK X kws t) (hw : ∀ σ H Q, t' σ H Q → t σ H Q) : PK X kws t' := ⟨fun pos pins s σ H Q I q => h.run pos pins s σ H Q I (hw _ _ _ q)⟩
section
variable {G : Gm} {E : XK} {X : Cx}
theorem mk_nil : PDK G E X [] maNil := PK.weak pk_nil fun σ H Q ⟨W, ρ, st, R, xq, rel, re, w, o⟩ => o.rt W H [] [] st Le.refl rel RpL.nil w
theorem mk_cons {nm : Option Str} {e : Expr} {kpos : Pos} {kws : List Keyword} {w : ME} {r : MA} (ha : PDE G E X e w) (hr : PDK G E X kws r) : PDK G E X (⟨nm, e, kpos⟩ :: kws) (maCons w r) :=
  PK.weak (pk_cons ha hr) fun σ H Q ⟨W, ρ, st, R, xq, rel, re, w, o⟩ =>
    ⟨W, ρ, st, _, xq, rel, re, w, ⟨fun W1 H1 d v st1 l1 rel1 rv w1 => ⟨W1, ρ, st1, _, xq, rel1, re.le l1, w1, ⟨fun W2 H2 ds vs st2 l2 rel2 rvs w2 => o.rt W2 H2 _ _ st2 (l1.trans l2) rel2 (RpL.cons (rv.le l2) rvs) w2, (o.le l1).xq⟩⟩, o.xq⟩⟩
theorem pd_callK {k n m : Nat} {ks : List Str} {dsp : DSp} {x : Str} {p pos : Pos} {e : Expr} {es : List Expr} {kws : List Keyword} {w wk : MA} (C : CalK X.prog X.w G X.mg X.base k x n ks dsp) (hr : Room k X.A) (ha : PDA G E X (e :: es) w) (hkw : PDK G E X kws wk) (hm : ks.length = m := by rfl) (hg : Gl X x := by rfl)
    (hall : (backToKw pos (keywordEach kws X.env)).all (·.1.isSome) = true := by rfl) (hks : (backToKw pos (keywordEach kws X.env)).filterMap (·.1) = ks := by rfl)
    (hdb : (x == ("__debug__" : Str)) = false := by decide +kernel) (he : starEach (e :: es) X.env = (false, eval e X.env) :: starEach es X.env := by rfl)
    (hpl : ((backTo pos (starEach (e :: es) X.env)).any (·.1) || (backToKw pos (keywordEach kws X.env)).any (·.1.isNone)) = false := by rfl) (hK : G.K = X.K := by rfl) :
    PDE G E X (.Call (.Name x p) (e :: es) kws pos) (mCallK n m dsp w wk) := by
  subst hm
  obtain ⟨f, fd, ps, F, hm, hk, hb⟩ := C.ex
  unfold FnD at F
  rw [hK] at F hk hb
  exact PE.weak (pe_callN F hr hg hm hk hb passA ha hkw hall hks hdb he hpl) fun σ H Q ⟨W, ρ, st, R, xq, rel, re, w, o⟩ =>
    ⟨W, ρ, st, _, xq, rel, re, w, ⟨fun W1 H1 ds vs st1 l1 rel1 rv w1 => ⟨W1, ρ, st1, _, xq, rel1, re.le l1, w1, ⟨fun W2 H2 zs us st2 l2 rel2 rz w2 =>
      ⟨by rw [rv.length]; exact w2.1, by rw [rz.length]; exact w2.2.1, W2, ds ++ zs, st2, R, xq, rel2, (rv.le l2).append rz, w2.2.2, o.le (l1.trans l2)⟩, (o.le l1).xq⟩⟩, o.xq⟩⟩
theorem pd_callD {k : Nat} {dsp : DSp} {x : Str} {p pos : Pos} {e : Expr} {es : List Expr} {w : MA} (C : CalD X.prog X.w G X.mg X.base k x dsp) (hr : Room k X.A) (ha : PDA G E X (e :: es) w) (hg : Gl X x := by rfl) (hdb : (x == ("__debug__" : Str)) = false := by decide +kernel) (he : starEach (e :: es) X.env = (false, eval e X.env) :: starEach es X.env := by rfl) (hpl : (backTo pos (starEach es X.env)).any (·.1) = false := by rfl) (hK : G.K = X.K := by rfl) :
    PDE G E X (.Call (.Name x p) (e :: es) [] pos) (mCallD dsp w) := by
  obtain ⟨f, fd, ps, T, F, hm, hk, hb, hT⟩ := C.ex
  unfold FnD at F
  have hK' := hK
  rw [hK] at F hk hb
  exact PE.weak (pe_call F hr hg hm hk hb (vals1 (v := .ref T) rfl) passA ha hdb he hpl) fun σ H Q ⟨W, ρ, st, R, xq, rel, re, w, o⟩ =>
    ⟨W, ρ, st, _, xq, rel, re, w, ⟨fun W1 H1 ds vs st1 l1 rel1 rv w1 => ⟨W1, ds ++ [.tup []], st1, R, xq, rel1, rv.append (.one (by simp only [Rp]; exact ⟨T, [], rfl, .inr hT, RpL.nil⟩)), w1, o.le l1⟩, o.xq⟩⟩
end
theorem gTpS_i {n k : Nat} {r : MGs} {d : D} {ρ : DEnv} {st : Sto} {q : DEnv → Sto → Prop} {xq : XQ} {xs ys : List D} (e : dr st d = .lst xs ∨ dr st d = .tup xs) (hn : n ≤ xs.length + 1) (he : starV n k xs .lst = ys) (h : r ys ρ st q xq) : gTpS n k r d ρ st q xq := ⟨xs, e, hn, by rw [he]; exact h⟩
theorem mCallK_i {n m : Nat} {dsp : DSp} {w wk : MA} {ρ : DEnv} {st : Sto} {R : DQ} {xq : XQ} (h : w ρ st (fun ds st1 => wk ρ st1 (fun zs st2 => ds.length = n ∧ zs.length = m ∧ dsp (ds ++ zs) st2 R xq) xq) xq) : mCallK n m dsp w wk ρ st R xq := h
theorem mCallD_i {dsp : DSp} {w : MA} {ρ : DEnv} {st : Sto} {R : DQ} {xq : XQ} (h : w ρ st (fun ds st1 => dsp (ds ++ [.tup []]) st1 R xq) xq) : mCallD dsp w ρ st R xq := h
end DL

set_option Elab.async false
set_option linter.all false
set_option maxRecDepth 100000
set_option autoImplicit false
namespace DL
open PySem PySem.Spec PyProof.Rows L2
/-! ## o[a:b] = a list -/
theorem bounds_clamp {a c n : Nat} (hac : a ≤ c) (ha : a ≤ n) : sliceBounds (some (a : Int)) (some (c : Int)) none n = ((a : Int), ((min c n : Nat) : Int), 1) := by
  have q1 : ¬ ((a : Int) < 0) := by omega
  have q2 : ¬ ((c : Int) < 0) := by omega
  simp only [sliceBounds, Option.getD_none, q1, q2, if_false, show (1 : Int) > 0 by decide, if_true]; congr 1; (first | omega | rfl); congr 1; omega
set_option maxRecDepth 100000 in
/-- a slice beyond the end is cut off -/
theorem setItem_clamp {P : Program} {w : World} {A : Around} {E : Value → Shared → Prop} {s : Shared} {l b sl : Addr} {its new : Array Value} {n n2 : Nat} {vl vu : Value} {a c : Nat} {Q : Unit → Shared → Prop}
    (e : s.heap.get? l = some { cls := .type "list", data := .seq its n }) (e2 : s.heap.get? b = some { cls := .type "list", data := .seq new n2 }) (hne : l ≠ b) (hs : s.heap.IsSliceOf sl vl vu .none) (pl : IsPart vl (some (a : Int))) (pu : IsPart vu (some (c : Int)))
    (hac : a ≤ c) (ha : a ≤ its.size) (hz : its.size + new.size ≤ sizeLine) (k : Q () { s with heap := s.heap.update l (Obj.mapSeq fun xs => xs.extract 0 a ++ new ++ xs.extract (min c its.size) xs.size) }) : wpAny (model P w) A (setItem (.ref l) (.ref sl) (.ref b)) Q E s := by
  have hl : s.heap.IsList l its := PySem.IsL.isList e; have hb : s.heap.IsList b new := PySem.IsL.isList e2
  obtain ⟨os, hos, hcs, hds⟩ := id hs
  have tS : s.TypeIs (.ref sl) "slice" := ⟨os, hos, hcs⟩; have st0 : ¬ ((rawPart none == rawInt 0) = true) := Bool.false_ne_true
  have same : Builtin.List.listSameRef (.ref l) (.ref b) = false := by unfold Builtin.List.listSameRef; exact beq_eq_false_iff_ne.mpr hne
  have mx : (max (a : Int) ((min c its.size : Nat) : Int)).toNat = min c its.size := by omega
  have sz : ((fun xs : Array Value => xs.extract 0 a ++ new ++ xs.extract (min c its.size) xs.size) its).size ≤ sizeLine + 1 := by simp only [Array.size_append, Array.size_extract]; omega
  unfold setItem; try with_reducible refine wpAny_holding ?_
  (first | refine wpAny_bind (wpAny_pure ?_) | skip); refine wpAny_bind (wpAny_sequenceKey hl.typeIs (by decide) ?_)
  refine wpAny_bind (wpAny_callSpecial?_slot (name := Str.ofString "__setitem__") hl.typeIs slot_list_setitem (wpAny_call_entry slot_list_setitem hl.typeIs entry_list_setitem ?_ (args_list_setitem _ _ _)))
  show wpAny _ _ (Builtin.List.listSubscript? (.ref sl) >>= _) _ _ s; refine wpAny_bind ?_
  unfold Builtin.List.listSubscript?; refine wpAny_bind (wpAny_specialOf tS slice_no_index ?_)
  simp only [Option.isNone_none, if_true]; refine wpAny_pure ?_
  show wpAny _ _ (typeOf (.ref sl) >>= _) _ _ s; refine wpAny_bind (wpAny_typeOf tS ?_)
  (first | rw [if_neg (by decide)] | refine PySem.W.KFB.if_not (by decide) ?_)
  rw [listSliceParts_eq]; refine wpAny_bind (wpAny_bind (wpAny_field hos hds (x := .none) rfl (wpAny_bind (wpAny_listPart .none ?_))))
  rw [if_neg st0]; refine wpAny_bind (wpAny_field hos hds (x := vl) rfl (wpAny_bind (wpAny_listPart pl ?_)))
  refine wpAny_bind (wpAny_field hos hds (x := vu) rfl (wpAny_bind (wpAny_listPart pu (wpAny_pure ?_)))); (first | simp only [same, Bool.false_eq_true, if_false] | refine PySem.W.KFB.if_not same ?_ | (dsimp only; rw [if_neg (by rw [same]; exact Bool.false_ne_true)]))
  refine wpAny_bind (m := Builtin.List.listAllItems (.ref b) "must assign iterable to extended slice") ?_; unfold Builtin.List.listAllItems
  refine wpAny_bind (wpAny_typeOf hb.typeIs ?_); (first | refine PySem.W.KFB.if_so (by decide) ?_ | rw [if_pos (by decide)] | simp only [beq_self_eq_true, Bool.true_or, if_true])
  unfold Builtin.List.listItems; refine wpAny_bind (wpAny_seqItems e2 rfl (wpAny_pure ?_))
  refine wpAny_bind (wpAny_bind (wpAny_seqItems e rfl (wpAny_pure ?_))); refine wpAny_bind (wpAny_of_eq ((sliceIndices_raw (some (a : Int)) (some (c : Int)) none its.size (by simp)).trans (congrArg (pure : Int × Int × Int → Sem (Int × Int × Int)) (bounds_clamp hac ha))) ?_)
  show wpAny _ _ (if ((1 : Int) == 1) = true then _ else _) _ _ s; rw [if_pos (by decide)]
  refine wpAny_bind (wpAny_rule ?_); (first | simp only [notLongL hz, Bool.false_eq_true, if_false] | refine PySem.W.KFB.if_not (notLongL hz) ?_)
  (first | refine wpAny_bind (wpAny_pure ?_) | skip); show wpAny _ _ (updateSeq l (fun xs => xs.extract 0 ((a : Int)).toNat ++ new ++ xs.extract (max (a : Int) ((min c its.size : Nat) : Int)).toNat xs.size) >>= _) _ _ s
  rw [mx, Int.toNat_natCast]; refine wpAny_bind (wpAny_updateSeq (hz := Nat.le_trans (Nat.le_add_right _ _) hz) (_hz' := sz) e rfl ?_)
  refine wpAny_bind (wpAny_letGo ?_); (first | exact wpAny_bind (wpAny_pure (wpAny_pure ⟨.none, rfl, wpAny_pure k⟩)) | exact wpAny_pure ⟨.none, rfl, wpAny_pure k⟩)
theorem set_clamp {X : Cx} {pins : List (Addr × Obj)} {s : Shared} {σ : L2.St} {H : Hp} {l b sl : Addr} {xs ys : List V} {a c : Int} {vl vu : Value} {Q : Unit → Shared → Prop} (I : Inv X pins σ H s) (hH : H l = some (.lst xs)) (hB : H b = some (.lst ys)) (hne : l ≠ b)
    (hs : s.heap.IsSliceOf sl vl vu .none) (ra : RelV (.int a) vl) (rc : RelV (.int c) vu) (h0 : 0 ≤ a) (hac : a ≤ c) (ha : a ≤ xs.length) (hz : xs.length + ys.length ≤ sizeLine) (k : ∀ s', Inv X pins σ (upd H l (.lst (xs.take a.toNat ++ ys ++ xs.drop c.toNat))) s' → Q () s') :
    wpAny (model X.prog X.w) X.A (setItem (.ref l) (.ref sl) (.ref b)) Q X.xe s := by
  obtain ⟨ta, rfl⟩ := ra; obtain ⟨tc, rfl⟩ := rc
  obtain ⟨z, its, n, r, hl, e⟩ := I.lstM hH; obtain ⟨z2, its2, n2, r2, hl2, e2⟩ := I.lstM hB
  obtain ⟨a', rfl⟩ := Int.eq_ofNat_of_zero_le h0; obtain ⟨c', rfl⟩ := Int.eq_ofNat_of_zero_le (Int.le_trans h0 hac)
  simp only [Int.toNat_natCast] at k
  have dr : xs.drop c' = xs.drop (min c' its.length) := by
    by_cases q : c' ≤ its.length
    · rw [Nat.min_eq_left q]
    · rw [Nat.min_eq_right (by omega), List.drop_eq_nil_of_le (by omega), List.drop_eq_nil_of_le (by omega)]
  refine setItem_clamp (a := a') (c := c') e e2 hne hs (.int _ _) (.int _ _) (by omega) (by rw [List.size_toArray]; omega) (by rw [List.size_toArray, List.size_toArray]; omega) (k _ ?_)
  rw [dr]
  refine I.lset (its' := its.take a' ++ its2 ++ its.drop (min c' its.length)) (t' := s.toks) hH e ?_ (Vals.append (Vals.append (r.take _) r2) (r.drop _)) ?_
  · rw [List.size_toArray]; exact splice_eq its its2 a' _
  · rw [List.length_append, List.length_append, List.length_take, List.length_drop]; omega
def gSubSl (to tl th : TE) : TG := fun v σ H Q => to σ H fun o H1 => tl σ H1 fun i H2 => th σ H2 fun j H3 => ∃ (l b : Addr) (xs ys : List V) (a c : Int), o = .ref l ∧ v = .ref b ∧ i = .int a ∧ j = .int c ∧ H3 l = some (.lst xs) ∧ H3 b = some (.lst ys) ∧ l ≠ b ∧ 0 ≤ a ∧ a ≤ c ∧ a ≤ xs.length ∧ xs.length + ys.length ≤ sizeLine ∧
  Q σ (upd H3 l (.lst (xs.take a.toNat ++ ys ++ xs.drop c.toNat)))
theorem pg_subSl {X : Cx} {o lo hi : Expr} {to tl th : TE} {pos p2 : Pos} (ho : PE X o to) (hl : PE X lo tl) (hh : PE X hi th)
    (ha : ∀ v, assign (.Subscript o (.Slice (some lo) (some hi) none p2) pos) X.env v = (do
      let ov ← holding [v] (eval o X.env); let iv ← holding [v, ov] (eval (.Slice (some lo) (some hi) none p2) X.env)
      standAt pos; holding [v, ov, iv] (setItem ov iv v); release [iv, v, ov] []) := by intro _; rfl) : PG X (.Subscript o (.Slice (some lo) (some hi) none p2) pos) (gSubSl to tl th) := by
  refine ⟨fun pins s σ H v u Q I r h => ?_⟩
  rw [ha]
  refine wpAny_bind (wpAny_holding (thn (ho.run pins s σ H _ I h) fun ov s1 ⟨x, H1, I1, r1, q1⟩ => wpAny_bind (wpAny_holding (wpAny_Slice ?_))))
  rw [evalPart_some]
  refine thn (hl.run pins s1 σ H1 _ I1 q1) fun vl s2 ⟨y, H2, I2, r2, q2⟩ => ?_
  rw [evalPart_some]
  refine thn (hh.run pins s2 σ H2 _ I2 q2) fun vu s3 ⟨z, H3, I3, r3, q3⟩ => ?_
  rw [evalPart_none]
  refine wpAny_pure ?_
  obtain ⟨l, b, xs, ys, a, c, rfl, rfl, rfl, rfl, e1, e2, ne, h0, hac, hc, hz, q⟩ := q3
  have I4 : Inv X pins σ H3 { s3 with heap := s3.heap.push { cls := .type "slice", data := .fields #[vl, vu, .none] } } := I3.kept (t' := s3.toks) fun b ob q => Heap.get?_push_of_some _ q
  cases r; cases r1
  refine wpAny_bind (wpAny_standAt (wpAny_bind (wpAny_holding (set_clamp I4 e1 e2 ne (Heap.IsSliceOf.new ..) r2 r3 h0 hac hc hz fun s' I' => ?_))))
  exact wpAny_release ⟨σ, _, I', q⟩
@[simp] def gSbSl (wo wl wh : ME) : MG := fun d ρ st k xq => wo ρ st (fun o st1 => wl ρ st1 (fun i st2 => wh ρ st2 (fun j st3 => ∃ (p : Nat) (xs ys : List D) (a c : Int), o = .hdl p ∧ i = .int a ∧ j = .int c ∧ st3[p]? = some (.lst xs) ∧ dr st3 d = .lst ys ∧ d ≠ .hdl p ∧ 0 ≤ a ∧ a ≤ c ∧ a ≤ xs.length ∧ xs.length + ys.length ≤ sizeLine ∧
  k ρ (st3.set p (.lst (xs.take a.toNat ++ ys ++ xs.drop c.toNat)))) xq) xq) xq
section
variable {G : Gm} {E : XK} {X : Cx}
theorem gd_sbSl {o lo hi : Expr} {wo wl wh : ME} {pos p2 : Pos} (ho : PDE G E X o wo) (hl : PDE G E X lo wl) (hh : PDE G E X hi wh)
    (ha : ∀ v, assign (.Subscript o (.Slice (some lo) (some hi) none p2) pos) X.env v = (do
      let ov ← holding [v] (eval o X.env); let iv ← holding [v, ov] (eval (.Slice (some lo) (some hi) none p2) X.env)
      standAt pos; holding [v, ov, iv] (setItem ov iv v); release [iv, v, ov] []) := by intro _; rfl) : PDG G E X (.Subscript o (.Slice (some lo) (some hi) none p2) pos) (gSbSl wo wl wh) :=
  PG.weak (pg_subSl ho hl hh ha) fun v σ H Q ⟨W, d, ρ, st, k, xq, rel, re, rv, w, o⟩ =>
    ⟨W, ρ, st, _, xq, rel, re, w, ⟨fun W1 H1 dx x st1 l1 rel1 rx w1 => ⟨W1, ρ, st1, _, xq, rel1, re.le l1, w1, ⟨fun W2 H2 di y st2 l2 rel2 ry w2 => ⟨W2, ρ, st2, _, xq, rel2, re.le (l1.trans l2), w2, ⟨fun W3 H3 dj z st3 l3 rel3 rz w3 => by
      obtain ⟨p, xs, ys, a, c, rfl, rfl, rfl, e1, e2, ne, h0, hac, hc, hz, w3⟩ := w3
      have rx3 := rx.le (l2.trans l3)
      have rv3 := rv.le (l1.trans (l2.trans l3))
      have ry3 := ry.le l3
      simp only [Rp] at rx3 ry3 rz
      obtain ⟨A, hA, rfl⟩ := rx3
      obtain ⟨b, h2, vs, h3, h4⟩ := rel3.cell _ _ e1
      rw [hA] at h2; cases h2
      obtain ⟨B, us, rfl, hB, hBr⟩ := dr_lst rel3 rv3 e2
      have nAB : A ≠ B := by
        rintro rfl
        cases d with
        | hdl q =>
          simp only [Rp] at rv3
          obtain ⟨C, hC, e⟩ := rv3
          cases e
          exact ne (by rw [get_inj rel3.nd hC hA])
        | lst ys' =>
          simp only [Rp] at rv3
          obtain ⟨C, _, e, n1, _⟩ := rv3
          cases e
          exact n1 (rel3.mem hA)
        | non => cases e2
        | bl _ => cases e2
        | int _ => cases e2
        | str _ => cases e2
        | tup _ => cases e2
        | scr _ => cases e2
        | raw _ => cases e2
        | exc _ => cases e2
      refine ⟨A, B, vs, us, a, c, rfl, rfl, ry3, rz, h3, hB, nAB, h0, hac, by rw [h4.length]; exact hc, by rw [h4.length, hBr.length]; exact hz, ?_⟩
      have l4 := Le.write (H := H3) (o := HO.lst (vs.take a.toNat ++ us ++ vs.drop c.toNat)) (rel3.mem hA)
      exact o.rt W3 _ _ σ _ (l1.trans (l2.trans (l3.trans l4))) (wrL rel3 hA (((h4.take _).append hBr).append (h4.drop _))) (re.le (l1.trans (l2.trans (l3.trans l4)))) w3, (o.le (l1.trans l2)).xq⟩⟩, (o.le l1).xq⟩⟩, o.xq⟩⟩
end
theorem gSbSl_i {wo wl wh : ME} {d : D} {ρ : DEnv} {st : Sto} {k : DEnv → Sto → Prop} {xq : XQ} (h : wo ρ st (fun o st1 => wl ρ st1 (fun i st2 => wh ρ st2 (fun j st3 => ∃ (p : Nat) (xs ys : List D) (a c : Int), o = .hdl p ∧ i = .int a ∧ j = .int c ∧ st3[p]? = some (.lst xs) ∧ dr st3 d = .lst ys ∧ d ≠ .hdl p ∧ 0 ≤ a ∧ a ≤ c ∧ a ≤ xs.length ∧ xs.length + ys.length ≤ sizeLine ∧
  k ρ (st3.set p (.lst (xs.take a.toNat ++ ys ++ xs.drop c.toNat)))) xq) xq) xq) : gSbSl wo wl wh d ρ st k xq := h
end DL

set_option Elab.async false
set_option linter.all false
set_option maxRecDepth 100000
set_option autoImplicit false
namespace DL
open PySem PySem.Spec PyProof.Rows L2
/-! ## zip of two lists that stay -/
def zipD (xs ys : List D) : List D := (xs.zip ys).map fun p => .tup [p.1, p.2]
theorem zipD_get {xs ys : List D} {i : Nat} {d : D} (e : (zipD xs ys)[i]? = some d) : ∃ x y, xs[i]? = some x ∧ ys[i]? = some y ∧ d = .tup [x, y] := by
  unfold zipD at e
  rw [List.getElem?_map, Option.map_eq_some_iff] at e
  obtain ⟨p, e1, rfl⟩ := e
  rw [List.getElem?_zip_eq_some] at e1
  exact ⟨p.1, p.2, e1.1, e1.2, rfl⟩
theorem it_zip {G : Gm} {W : Wd} {H : Hp} {a b : Addr} {xs ys : List D} (h : ∀ W' H', LeR W H W' H' → ∃ vs us, SqL G.K H' a vs ∧ RpL G.K W' H' xs vs ∧ SqL G.K H' b us ∧ RpL G.K W' H' ys us) : ItD G (Itz G.K a b) W H (zipD xs ys) noInv := by
  intro i W' H' st' l rel _
  obtain ⟨vs, us, h1, h2, h3, h4⟩ := h W' H' l
  refine ⟨fun hl => ⟨vs, us, h1, h3, ?_⟩, fun d e => ?_⟩
  · rw [h2.length, h4.length]
    have : (zipD xs ys).length = min xs.length ys.length := by simp [zipD]
    omega
  · obtain ⟨x, y, e1, e2, rfl⟩ := zipD_get e
    obtain ⟨v, q1, r1⟩ := h2.get e1
    obtain ⟨u, q2, r2⟩ := h4.get e2
    refine ⟨⟨vs, us, v, u, h1, h3, q1, q2⟩, fun z H'' g => ?_⟩
    obtain ⟨T, v', u', rfl, hT, rfl, g1, g2⟩ := g
    have e3 := g1 vs h1
    rw [q1] at e3; cases e3
    have e4 := g2 us h3
    rw [q2] at e4; cases e4
    exact ⟨W', Le.fresh hT, rel.fresh hT, newT rel hT (RpL.cons r1 (.one r2))⟩
@[simp] def miZip (w : MA) : MI := fun ρ st R xq => w ρ st (fun ds st1 => match ds with | [.lst xs, .lst ys] => R (zipD xs ys) noInv st1 | _ => False) xq
section
variable {G : Gm} {E : XK} {X : Cx}
theorem mi_zip {e e2 : Expr} {w : MA} {p pos tpos : Pos} {elts : List Expr} {kk : Nat} (hm : X.mg "zip" = none) (ha : PDA G E X [e, e2] w) (hg : Gl X "zip" := by rfl) (hs : starEach [e, e2] X.env = (false, eval e X.env) :: starEach [e2] X.env := by rfl) (hpl : (backTo pos (starEach [e2] X.env)).any (·.1) = false := by rfl) (hK : G.K = X.K := by rfl) :
    PDI G E X (.Tuple elts kk tpos) (.Call (.Name "zip" p) [e, e2] [] pos) (miZip w) :=
  PI.weak (pi_zip hg hm ha hs hpl) fun σ H Q ⟨W, ρ, st, R, xq, rel, re, w, o⟩ =>
    ⟨W, ρ, st, _, xq, rel, re, w, ⟨fun W1 H1 ds vs st1 l1 rel1 rv w1 => by
      rw [← hK]
      split at w1
      · rename_i xs ys
        obtain ⟨v, u, rfl, r1, r2⟩ := rpl2 rv
        simp only [Rp] at r1 r2
        obtain ⟨a, vs, rfl, h1, h2, h3, h4⟩ := r1
        obtain ⟨b, us, rfl, g1, g2, g3, g4⟩ := r2
        refine ⟨a, b, vs, us, rfl, SqL.of h3, SqL.of g3, o.rt W1 H1 _ _ _ st1 l1 rel1 (it_zip fun W2 H2 l2 => ⟨vs, us, ?_, h4.leR l2, ?_, g4.leR l2⟩) w1⟩
        · exact SqL.of (l2.keep a _ h1 h2 h3).2.2
        · exact SqL.of (l2.keep b _ g1 g2 g3).2.2
      · exact w1.elim, o.xq⟩⟩
end
/-- what is never come to -/
def sNever : MS := fun _ _ _ => False
theorem sd_never {G : Gm} {E : XK} {X : Cx} {s : Stmt} : PDS G E X s sNever := PS.weak ps_never fun Dn σ H ⟨W, ρ, st, e, rel, re, w, o⟩ => w.elim
theorem miZip_i {w : MA} {ρ : DEnv} {st : Sto} {xq : XQ} {k : List D → (Sto → Prop) → Sto → Prop} (h : w ρ st (fun ds st1 => match ds with | [.lst xs, .lst ys] => k (zipD xs ys) noInv st1 | _ => False) xq) : miZip w ρ st k xq := h
end DL

set_option Elab.async false
set_option linter.all false
set_option maxRecDepth 100000
set_option autoImplicit false
set_option maxHeartbeats 2000000
namespace L2
open PySem PySem.Spec PyProof.Rows
section
variable {X : Cx} {pins : List (Addr × Obj)} {σ : St} {H : Hp} {s : Shared}
/-- a pinned exception is tracked from now on -/
theorem Inv.trackX {a C : Addr} {oe : Obj} (I : Inv X ((a, oe) :: pins) σ H s) (n0 : X.s_0.heap.get? a = none) (np : ∀ p ∈ X.pn ++ pins, p.1 ≠ a) (z : Zc (.ref C) none oe) (d : ∃ vs, oe.data = .fields vs) : Inv X pins σ (upd H a (EXo C a)) s := by
  obtain ⟨e1, n, nL, nF, nc⟩ := I.pin (a, oe) (List.mem_append_right _ List.mem_cons_self)
  have ne : ∀ {b : Addr} {u : HO}, H b = some u → b ≠ a := fun {b u} e z => by rw [z] at e; rw [show H a = none from n] at e; cases e
  have nh : ∀ {b : Addr} {u : HO}, X.H_0 b = some u → H b = some u → b ≠ a := fun {b u} _ e => ne e
  refine ⟨I.ok, I.os, I.bare, ⟨I.base.keep, I.base.slot, fun b o e n' hx => ?_, I.base.there, fun b xs e => ?_, fun b o u e => ?_, fun b ps e => ?_⟩, I.loc, I.cell, ?_, fun y c e => ?_, fun p hp => ?_, fun b u e => ?_, I.len⟩
  · rw [upd_ne (fun q => by rw [q, n0] at e; cases e)]; exact I.base.free b o e n' hx
  · have q := I.base.tups b xs e; rw [upd_ne (ne q)]; exact q
  · have q := I.base.frzs b o u e; rw [upd_ne (ne q)]; exact q
  · obtain ⟨m, q⟩ := I.base.tbls b ps e; exact ⟨m, by rw [upd_ne (ne q)]; exact q⟩
  · rw [upd_ne (Ne.symm nL)]; exact I.free
  · have nca : c ≠ a := fun q => by
      obtain ⟨v, o, h1, h2⟩ := I.cell y c e
      rw [q, show s.heap.get? a = some oe from e1] at h1
      cases h1
      exact nc _ h2
    rw [upd_ne nca]; exact I.freeC y c e
  · obtain ⟨h1, h2, h3⟩ := I.pin p ((List.mem_append.mp hp).elim (fun q => List.mem_append_left _ q) fun q => List.mem_append_right _ (List.mem_cons_of_mem _ q))
    exact ⟨h1, by rw [upd_ne (np p hp)]; exact h2, h3⟩
  · by_cases hb : b = a
    · subst hb; rw [upd_same] at e; cases e; exact exo_is e1 z d
    · rw [upd_ne hb] at e
      exact (I.hok b u e).stay (fun c v _ q => q) (fun c q => by rw [upd_ne (ne q)]; exact q) fun c xs q => by rw [upd_ne (ne q)]; exact q
end
/-- what the clause 'except x as n: m = n' wishes of an exception: slots i, j are n's, m's; the object is tracked behind it -/
def wKeep (K : PySem.W.Frag) (c : Value) (i j : Nat) (Wout : WX) (D : Ends) : WX := fun cls d σ H =>
  ∃ C b, cls = .ref C ∧ d = none ∧ PySem.W.exmOne K cls c = some b ∧ (b = true → ∀ a, H a = none → D.nx (((σ.set i (some (.ref a))).set j (some (.ref a))).set i none) (upd H a (EXo C a))) ∧ (b = false → Wout cls d σ H)
section
variable {X : Cx} {x n : Str} {c : Value} {i j : Nat} {body suite : List Stmt} {b₀ : Stmt} {np pos pos' : Pos} {tb : WX → TS} {Wout : WX}
theorem ps_try_keep (hs : X.stack = X.env :: X.outer) (hf : X.env.frame = some X.env.locals) (hex : X.ex = []) (hN : X.N.Nodup) (hi : X.N[i]? = some n) (hlt : i < X.N.length) (hln : X.env.kindOf n = some .local) (hc : Names X x c) (tk : Takes X Wout)
    (hb : ∀ (W : WX) (pn : List (Addr × Obj)) (xe : Value → Shared → Prop), Takes (X.tr pn xe) W → PSs (X.tr pn xe) body (tb W))
    (hsu : ∀ (a : Addr) (oe : Obj) (pn : List (Addr × Obj)), PSs (X.suite a ((a, oe) :: pn)) (b₀ :: suite) (fun D σ H => σ[i]? = some (some (.ref a)) ∧ D.nx (σ.set j (some (.ref a))) H)) :
    PS X (.Try body [.ExceptHandler (some (.Name x np)) (some n) (b₀ :: suite) pos'] [] [] pos) (fun D σ H => tb (wKeep X.K c i j Wout D) D σ H) := by
  refine ⟨fun pins s σ H D I h => ?_⟩
  have ok := I.ok; have hfr : X.A.frames = some (X.env :: X.outer) := by rw [ok.frames, hs]
  refine wpAny_Try_except (wpAny_mono ((hb (wKeep X.K c i j Wout D) (X.pn ++ pins) (fun e s₁ => wpAny (model X.prog X.w) X.A (noteFrame e X.env) (fun _ s₂ => wpAny (model X.prog X.w) X.A (setFlight e none) (fun _ s₃ =>
    wpAny (model X.prog X.w) X.A (handleBy e X.env [.ExceptHandler (some (.Name x np)) (some n) (b₀ :: suite) pos']) (SP X pins D) X.xe s₃) X.xe s₂) X.xe s₁) (fun u s' xx => ?_)).run [] s σ H D (I.toTry _) h) (fun f s1 hsp => ?_) (fun e s1 he => he))
  · obtain ⟨a, B, sI, pins', σ', H', cls, d, rfl, J', nb, up, sky, na, os, ag, C, b, rfl, rfl, hb1, hyes, hno⟩ := xx
    have J : Inv X pins σ' H' sI := J'.ofTry ok; have sky' : Sky B (X.env :: X.outer) a (Zc (.ref C) none) X.env.locals s'.heap := by rw [← hs]; exact sky
    refine Sky.land (env := X.env) Zc.steady hfr hf sky' fun h3 fl3 up3 => ?_
    have J3 : Inv X pins σ' H' { s' with heap := h3 } := J.landed nb fl3.1 (up.trans up3) os ag; obtain ⟨oe3, vs3, he3, hz3, hd3⟩ := fl3.there
    have nfr : a ∉ frs (X.env :: X.outer) := fun hm => by
      obtain ⟨_, o', e', hnf⟩ := fl3.2.2.1.mem hm; rw [he3] at e'; cases e'; exact hnf _ hd3
    have nL : a ≠ X.env.locals := fun z => nfr (List.mem_filterMap.mpr ⟨X.env, List.mem_cons_self, by rw [hf, z]⟩)
    have nF : a ∉ X.fs := fun hm => by
      obtain ⟨e, he, q⟩ := List.mem_filterMap.mp hm; exact nfr (List.mem_filterMap.mpr ⟨e, List.mem_cons_of_mem _ he, q⟩)
    have nI : sI.heap.get? a = none := by
      cases q : sI.heap.get? a with
      | none => rfl
      | some o => have := nb a o q (by rw [hs]; exact nfr); rw [fl3.2.1] at this; cases this
    have n0 : X.s_0.heap.get? a = none := by
      cases q : X.s_0.heap.get? a with
      | none => rfl
      | some o => obtain ⟨o', q'⟩ := J.base.there a o q (by rw [hex]; exact List.not_mem_nil); rw [nI] at q'; cases q'
    have np' : ∀ p ∈ X.pn ++ pins, p.1 ≠ a := fun p hp z => by have := (J.pin p hp).1; rw [z, nI] at this; cases this
    have S3 := J3.suite he3 hd3 na nL nF
    refine wpAny_handleBy_cons (codeAny_handlers_test ?_) (by intro q; cases q)
    have LT : PySem.W.Looks (model X.prog X.w) h3 (typeOf (.ref a)) (.ref C) := fun A Q E s k q => wpAny_typeOf_ref (k _ _ he3) (by rw [hz3.1]; exact q)
    have LM := PySem.W.exm_one (M := model X.prog X.w) (J3.kIn) LT hb1
    have test : ∀ {Q : Value → Shared → Prop} {E : Value → Shared → Prop}, Q c { s' with heap := h3 } → wpAny (model X.prog X.w) (X.A.mark (some (.ref a))) (eval (.Name x np) X.env) Q E { s' with heap := h3 } := fun {Q E} q => by
      obtain ⟨hg, hdbg, hm | ⟨hm, hv, hnn⟩⟩ := hc
      · exact (ld_glob (X := X.suite a ((a, oe3) :: (X.pn ++ pins))) S3 hg hm q hdbg)
      · exact (ld_blt (X := X.suite a ((a, oe3) :: (X.pn ++ pins))) S3 hg hm hv q hnn hdbg)
    refine test (LM.here ?_)
    cases b with
    | true =>
      refine codeAny_handlers_suite_as (HandSPX.lands_againZ fl3 fun h4 fl4 up4 => ?_)
      have J4 : Inv X pins σ' H' { s' with heap := h4 } := J.landed nb fl4.1 ((up.trans up3).trans up4) os ag; obtain ⟨oe4, vs4, he4, hz4, hd4⟩ := fl4.there
      refine store_ok (X := X.suite a ((a, oe4) :: (X.pn ++ pins))) (v := .ref a) (J4.suite he4 hd4 na nL nF) hN hi (.inl hln) rfl (fun s5 S5 => ?_) (.inr hln)
      refine wpAny_mono ((hsu a oe4 (X.pn ++ pins)).run [] s5 _ H' { nx := fun σ6 H6 => H6 a = none → D.nx (σ6.set i none) (upd H6 a (EXo C a)), rt := fun _ _ => False } S5 ⟨by rw [List.getElem?_set_self]; rw [J4.len]; exact hlt, fun n6 => hyes rfl a na⟩) (fun f s6 hsp => ?_) (fun _ _ z => False.elim z)
      cases f with
      | next =>
        obtain ⟨σ6, H6, S6, q6⟩ := hsp
        obtain ⟨g1, g2, g3⟩ := S6.pin (a, oe4) (List.mem_append_left _ List.mem_cons_self)
        have S7 : Inv X ((a, oe4) :: pins) σ6 H6 s6 := ⟨ok, S6.os, S6.bare, S6.base, S6.loc, S6.cell, S6.free, S6.freeC, fun p hp => S6.pin p (List.mem_append_left _ (by
          rcases List.mem_append.mp hp with q | q
          · exact List.mem_cons_of_mem _ (List.mem_append_left _ q)
          · rcases List.mem_cons.mp q with q | q
            · rw [q]; exact List.mem_cons_self
            · exact List.mem_cons_of_mem _ (List.mem_append_right _ q))), S6.hok, S6.len⟩
        exact gone_ok S7 hN hi hln fun s7 J7 => ⟨_, _, J7.trackX n0 np' hz4 ⟨_, hd4⟩, q6 g2⟩
      | brk => obtain ⟨_, _, _, z⟩ := hsp; exact z.elim
      | cont => obtain ⟨_, _, _, z⟩ := hsp; exact z.elim
      | ret u => obtain ⟨_, _, _, _, _, z⟩ := hsp; exact z.elim
    | false =>
      refine wpAny_handleBy_nil ?_
      obtain ⟨k1, k2, k3, oe, vs, T, oT, ts', he, hz, hd, h1, hr⟩ := id fl3
      unfold PySem.passOn
      refine wpAny_bind (wpAny_field he hd h1 ?_); rw [if_neg (show ¬ ((Value.ref T == Value.none) = true) from by simp)]
      have fin : wpAny (model X.prog X.w) X.A (setFlight (.ref a) X.env.frame) (fun _ s4 => wpAny (model X.prog X.w) X.A (throw (.ref a) : Sem Flow) (SP X pins D) X.xe s4) X.xe { s' with heap := h3 } := by
        rw [hf]
        exact HandSPX.setFlight_upZ fl3 fun h4 hh4 up4 => wpAny_throw (tk _ _ ⟨a, B, sI, pins, σ', H', .ref C, none, rfl, J, nb, (up.trans up3).trans up4, .inr (.inr (by rw [hs]; exact hh4)), na, os, ag, hno rfl⟩)
      first
        | exact wpAny_bind (wpAny_pure (wpAny_bind fin))
        | exact wpAny_bind fin
  · cases f with
    | next => obtain ⟨σ', H', J', q⟩ := hsp; exact wpAny_execs_nil ⟨σ', H', J'.ofTry ok, q⟩
    | brk => obtain ⟨σ', H', J', q⟩ := hsp; exact ⟨σ', H', J'.ofTry ok, q⟩
    | cont => obtain ⟨σ', H', J', q⟩ := hsp; exact ⟨σ', H', J'.ofTry ok, q⟩
    | ret u => obtain ⟨v, σ', H', J', r, q⟩ := hsp; exact ⟨v, σ', H', J'.ofTry ok, r, q⟩
end
end L2
namespace L2
open PySem PySem.Spec PyProof.Rows
section
variable {X : Cx} {CX : CXT} {k n : Nat} {f : Addr} {fd : FuncData} {ps ks : List Str} {sp : Sp} {E : L2.St → XK} {x : Str} {p pos : Pos} {e : Expr} {es : List Expr} {kws : List Keyword} {t tk : TA} {ds : List Value} {dvs : List V}
/-- calls whose exceptions meet a wish at the slots: with keywords; with defaults -/
def tCallNS (n m : Nat) (sp : Sp) (E : L2.St → XK) (t tk : TA) : TE := fun σ H Q => t σ H fun vs H1 => tk σ H1 fun zs H2 => vs.length = n ∧ zs.length = m ∧ sp (vs ++ zs) H2 Q (E σ)
theorem pe_callNS (F : FnOk X.prog X.w X.K X.mg X.base CX k f fd ps sp) (hr : Room k X.A) (hg : Gl X x) (hm : X.mg x = some (.ref f)) (hk : PySem.W.keepIn X.K (.ref f) = true) (hb : KBn X.K fd ps n ks (fun us ws => us ++ ws) (fun vs zs => vs ++ zs)) (hx : ∀ σ, PassesAt CX X σ (E σ))
    (ha : PA X (e :: es) t) (hkw : PK X kws tk) (hall : (backToKw pos (keywordEach kws X.env)).all (·.1.isSome) = true := by rfl) (hks : (backToKw pos (keywordEach kws X.env)).filterMap (·.1) = ks := by rfl)
    (hdb : (x == ("__debug__" : Str)) = false := by decide) (he : starEach (e :: es) X.env = (false, eval e X.env) :: starEach es X.env := by rfl)
    (hpl : ((backTo pos (starEach (e :: es) X.env)).any (·.1) || (backToKw pos (keywordEach kws X.env)).any (·.1.isNone)) = false := by rfl) :
    PE X (.Call (.Name x p) (e :: es) kws pos) (tCallNS n ks.length sp E t tk) := by
  refine ⟨fun pins s σ H Q I h => wpAny_Call_Name_kw (ld_glob I hg hm (PySem.W.callWith_KW (h₀ := X.base) I.ok.mod.kin hk hall (thn (ha.run pos pins s σ H _ I h) fun us s1 ⟨vs, H1, I1, r, q⟩ => thn (hkw.run pos pins s1 σ H1 _ I1 q) fun ws s2 ⟨zs, H2, I2, rz, l1, l2, q2⟩ => ⟨I2.kIn, ?_⟩) hpl he) hdb)⟩
  rw [hks]
  refine wpAny_call (codeAny_mono (F.run X.A X.stack s2 H2 ⟨us, ks.zip ws⟩ (us ++ ws) (vs ++ zs) Q (E σ) hr I2.env0 (hb.to s2 us ws I2.kIn (r.length.symm.trans l1) (rz.length.symm.trans l2)) (r.append rz) q2) fun o s' hq => ?_)
  rcases o with ee | (_ | _ | _ | u)
  all_goals first | exact hx σ pins H2 s2 _ s' I2 hq | exact I2.after hq | exact False.elim hq
def tCallDS (sp : Sp) (dvs : List V) (E : L2.St → XK) (t : TA) : TE := fun σ H Q => t σ H fun vs H1 => sp (vs ++ dvs) H1 Q (E σ)
theorem pe_callDS (F : FnOk X.prog X.w X.K X.mg X.base CX k f fd ps sp) (hr : Room k X.A) (hg : Gl X x) (hm : X.mg x = some (.ref f)) (hk : PySem.W.keepIn X.K (.ref f) = true) (hb : Binds X.K fd ps ds) (hd : Vals dvs ds) (hx : ∀ σ, PassesAt CX X σ (E σ))
    (ha : PA X (e :: es) t) (hdb : (x == ("__debug__" : Str)) = false := by decide) (he : starEach (e :: es) X.env = (false, eval e X.env) :: starEach es X.env := by rfl) (hpl : (backTo pos (starEach es X.env)).any (·.1) = false := by rfl) :
    PE X (.Call (.Name x p) (e :: es) [] pos) (tCallDS sp dvs E t) := by
  refine ⟨fun pins s σ H Q I h => wpAny_Call_Name_kw (ld_glob I hg hm (PySem.W.callWith_K (h₀ := X.base) I.ok.mod.kin hk (thn (ha.run pos pins s σ H _ I h) fun us s1 ⟨vs, H1, I1, r, q⟩ => ⟨I1.kIn, ?_⟩) he hpl) hdb)⟩
  have r2 : Vals (vs ++ dvs) (us ++ ds) := r.append hd
  refine wpAny_call (codeAny_mono (F.run X.A X.stack s1 H1 ⟨us, []⟩ (us ++ ds) (vs ++ dvs) Q (E σ) hr I1.env0 (hb s1 us I1.kIn (by rw [← r2.length]; exact F.len _ _ _ _ q)) r2 q) fun o s' hq => ?_)
  rcases o with ee | (_ | _ | _ | u)
  all_goals first | exact hx σ pins H1 s1 _ s' I1 hq | exact I1.after hq | exact False.elim hq
end
/-! ### isinstance of a kept exception -/
def rIsX (K : PySem.W.Frag) : List V → Hp → VK → Prop := fun xs H Q => ∃ (a C : Addr) (c : V) (u : Value) (b : Bool), xs = [.ref a, c] ∧ H a = some (EXo C a) ∧ ExcC K C ∧ ClsV c u ∧ PySem.W.kitOne K (.ref C) u = some b ∧ Q (.bl b) H
def rIsXT (K : PySem.W.Frag) : List V → Hp → VK → Prop := fun xs H Q => ∃ (a C tp : Addr) (cs : List V) (us : List Value) (b : Bool), xs = [.ref a, .ref tp] ∧ H a = some (EXo C a) ∧ ExcC K C ∧ SqT K H tp cs ∧ Paired ClsV cs us ∧ PySem.W.kitAny K (.ref C) us = some b ∧ Q (.bl b) H
theorem exo_at2 {X : Cx} {pins : List (Addr × Obj)} {σ : St} {H : Hp} {s : Shared} {a C : Addr} (I : Inv X pins σ H s) (e : H a = some (EXo C a)) : ∃ oe, PySem.W.InstAt s.heap a oe C none := by
  obtain ⟨⟨⟨oc, od, oda, osl⟩, hget, ⟨h1, h2⟩, vs, hv⟩, _⟩ := I.hok a _ e
  dsimp only at h1 h2 hv
  subst h1 h2 hv
  exact ⟨_, hget, rfl, rfl, trivial⟩
theorem call_isX {X : Cx} : CallR X (.builtin "isinstance") (rIsX X.K) := by
  intro pins s σ H xs us Q I r h
  obtain ⟨a, C, c, u, b, rfl, ha, ec, k, e, q⟩ := h
  obtain ⟨u1, u2, rfl, r1, r2⟩ := vals2 r
  obtain rfl : u1 = Value.ref a := r1
  have e2 := k.eq r2
  subst e2
  obtain ⟨oe, J⟩ := exo_at2 I ha
  exact PySem.W.kia_one (PySem.W.handS_kitx_exc ec.hg ec.hk ec.hs ec.hd ec.ha ec.hn ec.ht ec.hm) I.kIn J e (fun z => nomatch z) fun tk => ⟨.bl b, H, I.tok tk, rfl, q⟩
theorem call_isXT {X : Cx} : CallR X (.builtin "isinstance") (rIsXT X.K) := by
  intro pins s σ H xs us Q I r h
  obtain ⟨a, C, tp, cs, ws, b, rfl, ha, ec, hT, k, e, q⟩ := h
  obtain ⟨u1, u2, rfl, r1, r2⟩ := vals2 r
  obtain rfl : u1 = Value.ref a := r1
  obtain rfl : u2 = Value.ref tp := r2
  obtain ⟨oe, J⟩ := exo_at2 I ha
  obtain ⟨its, ⟨oc, od, dt, sl⟩, n, rv, h1, h2, h3⟩ := sqT_at I.hok I.kIn hT
  have e3 := ClsV.all k rv
  subst e3
  simp only at h2 h3
  subst h2 h3
  exact PySem.W.kia_tup (PySem.W.handS_kitx_exc ec.hg ec.hk ec.hs ec.hd ec.ha ec.hn ec.ht ec.hm) I.kIn J h1 e (fun z => nomatch z) fun tk => ⟨.bl b, H, I.tok tk, rfl, q⟩
end L2
namespace DL
open PySem PySem.Spec PyProof.Rows L2
/-! ## exceptions -/
/-- a class of errors that the text names -/
structure XNm (K : PySem.W.Frag) (mg : Str → Option Value) (x : Str) (C : Addr) : Prop where
  mg : mg x = some (.ref C)
  kp : PySem.W.keepIn K (.ref C) = true
/-- .. that is raised -/
structure XRs (K : PySem.W.Frag) (C : Addr) : Prop where
  ex : PySem.W.excIn K C [.type "ValueError", .type "Exception", .type "BaseException", .type "object"] "ValueError.__new__" = true
  sb : PySem.W.subIn K (.ref C) (.type "BaseException") = some true
  ty : PySem.W.typeIn K (.ref C) = some (.type "type")
section
variable {G : Gm} {E : XK} {X : Cx}
@[simp] def sRaise (C : Addr) : MS := fun e _ st => e.xq C st
theorem sd_raise {C : Addr} {x m : Str} {j p p2 pos pos'} (tk : Takes X (fun cls d _ H => E cls d H)) (n : XNm G.K X.mg x C) (r : XRs G.K C) (hg : Gl X x := by rfl) (hc : X.calm = true := by rfl) (hdb : (x == ("__debug__" : Str)) = false := by decide +kernel) (hK : G.K = X.K := by rfl) :
    PDS G E X (.Raise (some (.Call (.Name x p) [.Constant (.str m) j p2] [] pos)) none pos') (sRaise C) := by
  have q := r.ex; have q2 := n.kp; have q3 := r.sb; have q4 := r.ty
  rw [hK] at q q2 q3 q4
  exact PS.weak (ps_raise hc tk (pmk_own PySem.F.excBase_ValueError q n.mg q2 (raises_own q3 q4) hg hdb)) fun Dn σ H ⟨W, ρ, st, e, rel, re, w, o⟩ => o.xq W H C st Le.refl rel w
/-- the name of a class -/
theorem pd_xnm {C : Addr} {x : Str} {pos : Pos} (n : XNm G.K X.mg x C) (hg : Gl X x := by rfl) (hd : (x == ("__debug__" : Str)) = false := by decide +kernel) : PDE G E X (.Name x pos) (mC (.raw (.ref C))) :=
  pd_c (pe_glob hg n.mg (v := .ref C) rfl hd) fun _ _ => rfl
/-- isinstance of a kept exception: tb tells the answers -/
@[simp] def dIsX (u : V) (tb : List (Addr × Bool)) : D1 := fun ds st R => match ds with
  | [.exc C, .raw v] => ∃ b, (C, b) ∈ tb ∧ v = u ∧ R (.bl b) st
  | _ => False
@[simp] def dIsXT (us : List Addr) (tb : List (Addr × Bool)) : D1 := fun ds st R => match ds with
  | [.exc C, .tup vs] => ∃ b, (C, b) ∈ tb ∧ vs = us.map (fun a => .raw (.ref a)) ∧ R (.bl b) st
  | _ => False
theorem cd_isX {u : V} {cv : Value} {tb : List (Addr × Bool)} (k : ClsV u cv) (h : ∀ p ∈ tb, ExcC G.K p.1 ∧ PySem.W.kitOne G.K (.ref p.1) cv = some p.2) (hK : G.K = X.K) : CaD G (rIsX X.K) (dIsX u tb) := by
  intro E W H st ds vs R xq Q rel rs w o
  rw [← hK]
  unfold dIsX at w
  split at w
  · rename_i C v
    obtain ⟨b, h1, rfl, w⟩ := w
    obtain ⟨v1, v2, rfl, r1, r2⟩ := rpl2 rs
    simp only [Rp] at r1
    obtain ⟨a, rfl, _, _, ha⟩ := r1
    obtain rfl : v2 = v := r2
    exact ⟨a, C, v2, cv, b, rfl, ha, (h _ h1).1, k, (h _ h1).2, o.rt W H (.bl b) _ st Le.refl rel rfl w⟩
  · cases w
theorem raws_eq {K : PySem.W.Frag} {W : Wd} {H : Hp} : ∀ {us : List Addr} {vs : List V}, RpL K W H (us.map fun a => D.raw (.ref a)) vs → vs = us.map V.ref
  | [], vs, h => by simpa only [List.map, RpL] using h
  | u :: us, vs, h => by
    simp only [List.map, RpL, Rp] at h
    obtain ⟨v, r, rfl, rfl, h2⟩ := h
    rw [raws_eq h2]; rfl
theorem own_all : ∀ us : List Addr, Paired ClsV (us.map V.ref) (us.map Value.ref)
  | [] => .nil
  | u :: us => .cons (.own u) (own_all us)
theorem cd_isXT {us : List Addr} {tb : List (Addr × Bool)} (h : ∀ p ∈ tb, ExcC G.K p.1 ∧ PySem.W.kitAny G.K (.ref p.1) (us.map Value.ref) = some p.2) (hK : G.K = X.K) : CaD G (rIsXT X.K) (dIsXT us tb) := by
  intro E W H st ds vs R xq Q rel rs w o
  rw [← hK]
  unfold dIsXT at w
  split at w
  · rename_i C vs
    obtain ⟨b, h1, rfl, w⟩ := w
    obtain ⟨v1, v2, rfl, r1, r2⟩ := rpl2 rs
    simp only [Rp] at r1
    obtain ⟨a, rfl, _, _, ha⟩ := r1
    obtain ⟨t, cs, rfl, h3, h4⟩ := tup_sq r2
    obtain rfl := raws_eq h4
    exact ⟨a, C, t, _, _, b, rfl, ha, (h _ h1).1, h3, own_all us, (h _ h1).2, o.rt W H (.bl b) _ st Le.refl rel rfl w⟩
  · cases w
/-! ### try: y = v / except P as n: m = n -/
def tDs (G : Gm) (E : L2.St → XK) (w : ME) : TE := fun σ H Q => ∃ W ρ st R xq, Rel G W H st ∧ RpE G.K W H ρ σ ∧ w ρ st R xq ∧ OutE G (E σ) W H R xq Q
def PDEs (G : Gm) (E : L2.St → XK) (X : Cx) (e : Expr) (w : ME) : Prop := PE X e (tDs G E w)
theorem pds_of {E : L2.St → XK} {e : Expr} {w : ME} (h : ∀ E, PDE G E X e w) : PDEs G E X e w :=
  ⟨fun pins s σ H Q I q => (h (E σ)).run pins s σ H Q I q⟩
theorem pds_if {E : L2.St → XK} {c a b : Expr} {t : MT} {wa wb : ME} {pos : Pos} (hc : ∀ E, PDT G E X c t) (ha : PDEs G E X a wa) (hb : PDEs G E X b wb) : PDEs G E X (.IfExp c a b pos) (mIf t wa wb) :=
  PE.weak (pe_ifExp (tA := fun σ H Q => tDT G (E σ) t σ H Q) ⟨fun pins s σ H Q I q => (hc (E σ)).run pins s σ H Q I q⟩ ha hb) fun σ H Q ⟨W, ρ, st, R, xq, rel, re, w, o⟩ =>
    ⟨W, ρ, st, _, xq, rel, re, w, ⟨fun W1 H1 c st1 l1 rel1 w1 => by
      cases c with
      | true => exact ⟨W1, ρ, st1, R, xq, rel1, re.le l1, w1, o.le l1⟩
      | false => exact ⟨W1, ρ, st1, R, xq, rel1, re.le l1, w1, o.le l1⟩, o.xq⟩⟩
end
/-- calls that may let an exception out -/
structure CalX (P : Program) (w : World) (G : Gm) (mg : Str → Option Value) (base : Heap) (k : Nat) (x : Str) (dsp : DSp) : Prop where
  ex : ∃ f fd ps, FnD P w G mg base (L2.CX P w) k f fd ps dsp ∧ mg x = some (.ref f) ∧ PySem.W.keepIn G.K (.ref f) = true ∧ Binds G.K fd ps []
structure CalKX (P : Program) (w : World) (G : Gm) (mg : Str → Option Value) (base : Heap) (k : Nat) (x : Str) (n : Nat) (ks : List Str) (dsp : DSp) : Prop where
  ex : ∃ f fd ps, FnD P w G mg base (L2.CX P w) k f fd ps dsp ∧ mg x = some (.ref f) ∧ PySem.W.keepIn G.K (.ref f) = true ∧ KBn G.K fd ps n ks (fun us ws => us ++ ws) (fun vs zs => vs ++ zs)
structure CalDX (P : Program) (w : World) (G : Gm) (mg : Str → Option Value) (base : Heap) (k : Nat) (x : Str) (dsp : DSp) : Prop where
  ex : ∃ f fd ps T, FnD P w G mg base (L2.CX P w) k f fd ps dsp ∧ mg x = some (.ref f) ∧ PySem.W.keepIn G.K (.ref f) = true ∧ Binds G.K fd ps [.ref T] ∧ SqT G.K (fun _ => none) T []
section
variable {G : Gm} {X : Cx} {W : WX}
theorem pds_callK {k n m : Nat} {ks : List Str} {dsp : DSp} {x : Str} {p pos : Pos} {e : Expr} {es : List Expr} {kws : List Keyword} {w wk : MA} (C : CalKX X.prog X.w G X.mg X.base k x n ks dsp) (tk : Takes X W) (hr : Room k X.A) (ha : ∀ E, PDA G E X (e :: es) w) (hkw : ∀ E, PDK G E X kws wk) (hm : ks.length = m := by rfl) (hg : Gl X x := by rfl)
    (hall : (backToKw pos (keywordEach kws X.env)).all (·.1.isSome) = true := by rfl) (hks : (backToKw pos (keywordEach kws X.env)).filterMap (·.1) = ks := by rfl)
    (hdb : (x == ("__debug__" : Str)) = false := by decide +kernel) (he : starEach (e :: es) X.env = (false, eval e X.env) :: starEach es X.env := by rfl)
    (hpl : ((backTo pos (starEach (e :: es) X.env)).any (·.1) || (backToKw pos (keywordEach kws X.env)).any (·.1.isNone)) = false := by rfl) (hK : G.K = X.K := by rfl) :
    PDEs G (WE W) X (.Call (.Name x p) (e :: es) kws pos) (mCallK n m dsp w wk) := by
  subst hm
  obtain ⟨f, fd, ps, F, hm, hk, hb⟩ := C.ex
  unfold FnD at F
  rw [hK] at F hk hb
  exact PE.weak (pe_callNS (E := WE W) (t := fun σ H Q => tDA G (WE W σ) w σ H Q) (tk := fun σ H Q => tDA G (WE W σ) wk σ H Q) F hr hg hm hk hb (fun σ => passAt tk σ) ⟨fun pos pins s σ H Q I q => (ha (WE W σ)).run pos pins s σ H Q I q⟩ ⟨fun pos pins s σ H Q I q => (hkw (WE W σ)).run pos pins s σ H Q I q⟩ hall hks hdb he hpl) fun σ H Q ⟨W, ρ, st, R, xq, rel, re, w, o⟩ =>
    ⟨W, ρ, st, _, xq, rel, re, w, ⟨fun W1 H1 ds vs st1 l1 rel1 rv w1 => ⟨W1, ρ, st1, _, xq, rel1, re.le l1, w1, ⟨fun W2 H2 zs us st2 l2 rel2 rz w2 =>
      ⟨by rw [rv.length]; exact w2.1, by rw [rz.length]; exact w2.2.1, W2, ds ++ zs, st2, R, xq, rel2, (rv.le l2).append rz, w2.2.2, o.le (l1.trans l2)⟩, (o.le l1).xq⟩⟩, o.xq⟩⟩
theorem pds_callD {k : Nat} {dsp : DSp} {x : Str} {p pos : Pos} {e : Expr} {es : List Expr} {w : MA} (C : CalDX X.prog X.w G X.mg X.base k x dsp) (tk : Takes X W) (hr : Room k X.A) (ha : ∀ E, PDA G E X (e :: es) w) (hg : Gl X x := by rfl) (hdb : (x == ("__debug__" : Str)) = false := by decide +kernel) (he : starEach (e :: es) X.env = (false, eval e X.env) :: starEach es X.env := by rfl) (hpl : (backTo pos (starEach es X.env)).any (·.1) = false := by rfl) (hK : G.K = X.K := by rfl) :
    PDEs G (WE W) X (.Call (.Name x p) (e :: es) [] pos) (mCallD dsp w) := by
  obtain ⟨f, fd, ps, T, F, hm, hk, hb, hT⟩ := C.ex
  unfold FnD at F
  have hK' := hK
  rw [hK] at F hk hb
  exact PE.weak (pe_callDS (E := WE W) (t := fun σ H Q => tDA G (WE W σ) w σ H Q) F hr hg hm hk hb (vals1 (v := .ref T) rfl) (fun σ => passAt tk σ) ⟨fun pos pins s σ H Q I q => (ha (WE W σ)).run pos pins s σ H Q I q⟩ hdb he hpl) fun σ H Q ⟨W, ρ, st, R, xq, rel, re, w, o⟩ =>
    ⟨W, ρ, st, _, xq, rel, re, w, ⟨fun W1 H1 ds vs st1 l1 rel1 rv w1 => ⟨W1, ds ++ [.tup []], st1, R, xq, rel1, rv.append (.one (by simp only [Rp]; exact ⟨T, [], rfl, .inr hT, RpL.nil⟩)), w1, o.le l1⟩, o.xq⟩⟩
theorem pds_call {k : Nat} {dsp : DSp} {x : Str} {p pos : Pos} {e : Expr} {es : List Expr} {w : MA} (C : CalX X.prog X.w G X.mg X.base k x dsp) (tk : Takes X W) (hr : Room k X.A) (ha : ∀ E, PDA G E X (e :: es) w) (hg : Gl X x := by rfl) (hdb : (x == ("__debug__" : Str)) = false := by decide +kernel) (he : starEach (e :: es) X.env = (false, eval e X.env) :: starEach es X.env := by rfl) (hpl : (backTo pos (starEach es X.env)).any (·.1) = false := by rfl) (hK : G.K = X.K := by rfl) :
    PDEs G (WE W) X (.Call (.Name x p) (e :: es) [] pos) (mCall dsp w) := by
  obtain ⟨f, fd, ps, F, hm, hk, hb⟩ := C.ex
  unfold FnD at F
  rw [hK] at F hk hb
  exact PE.weak (pe_callDS (E := WE W) (t := fun σ H Q => tDA G (WE W σ) w σ H Q) F hr hg hm hk hb .nil (fun σ => passAt tk σ) ⟨fun pos pins s σ H Q I q => (ha (WE W σ)).run pos pins s σ H Q I q⟩ hdb he hpl) fun σ H Q ⟨W, ρ, st, R, xq, rel, re, w, o⟩ =>
    ⟨W, ρ, st, _, xq, rel, re, w, ⟨fun W1 H1 ds vs st1 l1 rel1 rv w1 => ⟨W1, ds, st1, R, xq, rel1, by rw [List.append_nil]; exact rv, w1, o.le l1⟩, o.xq⟩⟩
end
section
variable {G : Gm} {E : XK} {X : Cx}
/-- try: y = v / except P as n: m = n: only exceptions of the classes cs come out of v; slots l, i, j are y's, n's, m's -/
@[simp] def sTry (l i j : Nat) (cs : List Addr) (w : ME) : MS := fun e ρ st => w ρ st (fun d st1 => e.nx (ρ.set l (some d)) st1) fun C st1 => C ∈ cs ∧ e.nx ((ρ.set j (some (.exc C))).set i none) st1
theorem RpE.unset {K : PySem.W.Frag} {W : Wd} {H : Hp} {ρ : DEnv} {σ : L2.St} (r : RpE K W H ρ σ) (i : Nat) (o : Option V) : RpE K W H (ρ.set i none) (σ.set i o) := by
  refine ⟨by simp [r.len], fun j e q => ?_⟩
  by_cases hj : i = j
  · subst hj
    by_cases hi : i < ρ.length
    · rw [List.getElem?_set_self hi] at q; cases q
    · rw [List.getElem?_eq_none (by simp; omega)] at q; cases q
  · rw [List.getElem?_set_ne hj] at q
    obtain ⟨w, h1, h2⟩ := r.get j e q
    exact ⟨w, by rw [List.getElem?_set_ne hj]; exact h1, h2⟩
theorem sd_try {P : Addr} {cs : List Addr} {x n y m : Str} {v : Expr} {w : ME} (l i j : Nat) {np yp mp np2 apos apos2 pos pos' : Pos} (nm : XNm G.K X.mg x P) (hcs : ∀ C ∈ cs, PySem.W.exmOne G.K (.ref C) (.ref P) = some true)
    (hv : ∀ (W : WX) (pn : List (Addr × Obj)) (xe : Value → Shared → Prop), Takes (X.tr pn xe) W → PDEs G (WE W) (X.tr pn xe) v w)
    (hN : X.N.Nodup) (hij : i ≠ j := by decide) (hs : X.stack = X.env :: X.outer := by rfl) (hf : X.env.frame = some X.env.locals := by rfl) (hex : X.ex = [] := by rfl)
    (hl : X.N[l]? = some y := by rfl) (hi : X.N[i]? = some n := by rfl) (hj : X.N[j]? = some m := by rfl) (hln : X.env.kindOf n = some .local := by rfl)
    (hyl : X.env.scope.names.lookup y = some .local := by rfl) (hnl : X.env.scope.names.lookup n = some .local := by rfl) (hml : X.env.scope.names.lookup m = some .local := by rfl)
    (hsw : swapsWith v (some (.Name y yp)) apos.line X.env = pure false := by rfl) (hsw2 : swapsWith (.Name n np2) (some (.Name m mp)) apos2.line X.env = pure false := by rfl)
    (hg : Gl X x := by rfl) (hd : (x == ("__debug__" : Str)) = false := by decide +kernel) (hdn : (n == ("__debug__" : Str)) = false := by decide +kernel) (hdc : (n == ("__classdict__" : Str)) = false := by decide +kernel) (hK : G.K = X.K := by rfl) :
    PDS G E X (.Try [.Assign [.Name y yp] v apos] [.ExceptHandler (some (.Name x np)) (some n) [.Assign [.Name m mp] (.Name n np2) apos2] pos'] [] [] pos) (sTry l i j cs w) := by
  refine PS.weak (ps_try_keep (i := i) (j := j) (tb := fun W => tAsg (tDs G (WE W) w) (gName l)) (Wout := fun _ _ _ _ => False) hs hf hex hN hi (List.getElem?_eq_some_iff.mp hi).1 hln ⟨hg, hd, .inl nm.mg⟩ takes0 (fun W pn xe tk => pss_one (ps_set (X := X.tr pn xe) hN hl (.inl hyl) (hv W pn xe tk) hsw (.inr hyl)))
    (fun a oe pn => PSs.weak (pss_one (ps_set (X := X.suite a ((a, oe) :: pn)) hN hj (.inl hml) (pe_var hi (.inl hnl) hdn hdc) hsw2 (.inr hml))) fun D σ H h => ⟨_, h.1, h.2⟩)) fun Dn σ H ⟨W, ρ, st, e, rel, re, w, o⟩ => ?_
  refine ⟨W, ρ, st, _, _, rel, re, w, ⟨fun W1 H1 d v st1 l1 rel1 rv w1 => o.nx W1 H1 _ _ st1 l1 rel1 ((re.le l1).set rv l) w1, fun W1 H1 C st1 l1 rel1 w1 => ?_⟩⟩
  obtain ⟨hC, w1⟩ := w1
  refine ⟨C, true, rfl, rfl, by rw [← hK]; exact hcs C hC, fun _ a na => ?_, fun z => by cases z⟩
  have l2 : Le W1 H1 W1 (upd H1 a (EXo C a)) := Le.fresh na
  have rx : Rp G.K W1 (upd H1 a (EXo C a)) (.exc C) (.ref a) := by simp only [Rp]; exact ⟨a, rfl, rel1.nin na, rel1.nex na, upd_same⟩
  refine o.nx W1 _ _ _ st1 (l1.trans l2) (rel1.fresh na) ?_ w1
  have r1 := ((re.le (l1.trans l2)).set rx j).unset i none
  refine ⟨by simp [r1.len], fun q d h => ?_⟩
  obtain ⟨v, h1, h2⟩ := r1.get q d h
  refine ⟨v, ?_, h2⟩
  by_cases hq : i = q
  · subst hq
    by_cases hi' : i < σ.length
    · rw [List.getElem?_set_self (by simpa using hi')] at h1; cases h1
    · rw [List.getElem?_eq_none (by simpa using hi')] at h1; cases h1
  · rw [List.getElem?_set_ne hq] at h1 ⊢
    by_cases hj' : j = q
    · subst hj'
      by_cases hlt : j < σ.length
      · rw [List.getElem?_set_self hlt] at h1; rw [List.getElem?_set_self (by simpa using hlt)]; exact h1
      · rw [List.getElem?_eq_none (by simpa using hlt)] at h1; cases h1
    · rw [List.getElem?_set_ne hj'] at h1 ⊢; rw [List.getElem?_set_ne hq]; exact h1
end
theorem FnD.mkX {P : Program} {w : World} {G : Gm} {mg : Str → Option Value} {base : Heap} {x qual : Str} {st : Stmt} {f : Addr} {fd : FuncData} {N ps : List Str} {k : Nat} {dsp : DSp} {b : MS} (F : Fun G.K x qual st f fd) (S : FnScope N ps (defScope st)) (len : ∀ ds st R xq, dsp ds st R xq → ds.length = ps.length)
    (der : ∀ (cdv : Value) (A : Around) (outer : List Env) (s : Shared) (H : Hp) (E : XK), Room k (A.deeper (envOfC qual (defScope st) s.heap.objs.size f cdv)) → Takes (cxOf (L2.CX P w) P w G.K mg base N qual (defScope st) f cdv A outer s H E) (fun cls d _ H => E cls d H) → PDSs G E (cxOf (L2.CX P w) P w G.K mg base N qual (defScope st) f cdv A outer s H E) (defBody st) b)
    (sem : ∀ ds st R xq, dsp ds st R xq → b ⟨fun _ st' => R .non st', R, fun _ _ => False, fun _ _ => False, xq⟩ (startD N ds) st) : FnD P w G mg base (L2.CX P w) (k + 1) f fd ps dsp := by
  unfold FnD
  refine F.okX S (fun vs H Q E h => ?_) (fun cdv A outer s H vs Q E hr h => ⟨_, der cdv A outer s H E hr (takes_of rfl rfl rfl rfl), ?_⟩)
  · obtain ⟨W, ds, st, R, xq, rel, rl, hsp, o⟩ := h
    rw [rl.length]; exact len ds st R xq hsp
  · obtain ⟨W, ds, st, R, xq, rel, rl, hsp, o⟩ := h
    exact ⟨W, startD N ds, st, _, rel, start_rp rl, sem ds st R xq hsp, ⟨fun W1 H1 ρ1 σ1 st1 l1 rel1 re1 w1 => o.rt W1 H1 .non .non st1 l1 rel1 rfl w1, fun _ _ _ _ _ _ _ _ z => z.elim, fun _ _ _ _ _ _ _ _ z => z.elim, o.rt, o.xq⟩⟩
end DL

set_option Elab.async false
set_option linter.all false
set_option maxRecDepth 100000
set_option autoImplicit false
namespace DL
open PySem PySem.Spec PyProof.Rows L2
/-! ## constants of the text -/
/-- the text's name x holds what d tells -/
structure GlD (G : Gm) (mg : Str → Option Value) (x : Str) (d : D) : Prop where
  ex : ∃ (v : V) (u : Value), mg x = some u ∧ RelV v u ∧ ∀ W H, Rp G.K W H d v
section
variable {G : Gm} {E : XK} {X : Cx}
theorem pd_glb {x : Str} {d : D} {pos : Pos} (g : GlD G X.mg x d) (hg : Gl X x := by rfl) (hd : (x == ("__debug__" : Str)) = false := by decide +kernel) : PDE G E X (.Name x pos) (mC d) := by
  obtain ⟨v, u, h1, h2, h3⟩ := g.ex
  exact pd_c (pe_glob hg h1 h2 hd) h3
end
/-! ## written tables: texts, each with a def -/
/-- at d: a written dict of these pairs -/
structure TabD (G : Gm) (d : Addr) (tb : List (Str × Addr)) : Prop where
  ex : ∃ (es : Array DictEntry) (n : Nat), G.K.lookup d = some ⟨.type "dict", none, .dict es n, #[]⟩ ∧ PySem.W.KeysLit G.w.params es.toList ∧ (d == sysModules) = false ∧ ∀ x, PySem.W.nsIn G.K d x = some ((tb.lookup x).map Value.ref)
def rInKD (d : Addr) (tb : List (Str × Addr)) (neg : Bool) : R2 := fun x y H Q => ∃ z, x = .str z ∧ y = .ref d ∧ Q (.bl (if neg then !(tb.lookup z).isSome else (tb.lookup z).isSome)) H
def rIxKD (d : Addr) (tb : List (Str × Addr)) : R2 := fun x y H Q => ∃ z a, x = .ref d ∧ y = .str z ∧ tb.lookup z = some a ∧ Q (.ref a) H
section
variable {G : Gm} {E : XK} {X : Cx} {d : Addr} {tb : List (Str × Addr)}
theorem TabD.kd (T : TabD G d tb) (hK : G.K = X.K) (hw : G.w = X.w) : ∃ es n, KDict X.K X.w d es n := by
  obtain ⟨es, n, h1, h2, h3, _⟩ := T.ex
  exact ⟨es, n, ⟨by rw [← hK]; exact h1, by rw [← hw]; exact h2, h3⟩⟩
theorem op_inKD (T : TabD G d tb) (hK : G.K = X.K) (hw : G.w = X.w) : OpR X (compareOp .In) (rInKD d tb false) := by
  obtain ⟨es, n, D⟩ := T.kd hK hw
  obtain ⟨_, _, _, _, _, hx⟩ := T.ex
  intro pins s σ H x y v u Q I rx ry ⟨z, ex, ey, q⟩
  refine op_in_kd D pins s σ H x y v u Q I rx ry ⟨z, _, ex, ey, by rw [← hK]; exact hx z, ?_⟩
  rw [Option.isSome_map]; exact q
theorem op_notInKD (T : TabD G d tb) (hK : G.K = X.K) (hw : G.w = X.w) : OpR X (compareOp .NotIn) (rInKD d tb true) := by
  obtain ⟨es, n, D⟩ := T.kd hK hw
  obtain ⟨_, _, _, _, _, hx⟩ := T.ex
  intro pins s σ H x y v u Q I rx ry ⟨z, ex, ey, q⟩
  refine op_notIn_kd D pins s σ H x y v u Q I rx ry ⟨z, _, ex, ey, by rw [← hK]; exact hx z, ?_⟩
  rw [Option.isSome_map]; exact q
theorem ix_KD (T : TabD G d tb) (hK : G.K = X.K) (hw : G.w = X.w) : IxR X (rIxKD d tb) := by
  obtain ⟨es, n, D⟩ := T.kd hK hw
  obtain ⟨_, _, _, _, _, hx⟩ := T.ex
  intro value slice pins s σ H x y v u Q I rx ry h hs
  obtain ⟨z, a, rfl, rfl, e, q⟩ := h
  cases (show v = Value.ref d from rx)
  have e2 : PySem.W.nsIn X.K d z = some (some (Value.ref a)) := by rw [← hK, hx z, e]; rfl
  exact tail_any (kd_type D I) PySem.F.slot_dict_getitem.lookup (op_item_kd D pins s σ H (.ref d) (.str z) _ u Q I rfl ry ⟨z, _, .ref a, rfl, rfl, e2, rfl, q⟩) hs
@[simp] def dInKD (d : Addr) (tb : List (Str × Addr)) (neg : Bool) : D2 := fun x y st R => y = .raw (.ref d) ∧ onS x fun z => R (.bl (if neg then !(tb.lookup z).isSome else (tb.lookup z).isSome)) st
@[simp] def dIxKD (d : Addr) (tb : List (Str × Addr)) : D2 := fun x y st R => x = .raw (.ref d) ∧ onS y fun z => ∃ a, tb.lookup z = some a ∧ R (.raw (.ref a)) st
theorem od_inKD (neg : Bool) : OpD G (rInKD d tb neg) (dInKD d tb neg) := by
  intro E W H st dx dy x y R xq Q rel rx ry w o
  obtain ⟨rfl, w⟩ := w
  obtain ⟨z, rfl, w⟩ := onS_of rx w
  exact ⟨z, rfl, ry, o.rt W H (.bl _) _ st Le.refl rel rfl w⟩
theorem od_ixKD : OpD G (rIxKD d tb) (dIxKD d tb) := by
  intro E W H st dx dy x y R xq Q rel rx ry w o
  obtain ⟨rfl, w⟩ := w
  obtain ⟨z, rfl, a, e, w⟩ := onS_of ry w
  exact ⟨z, a, rx, rfl, e, o.rt W H (.raw _) _ st Le.refl rel rfl w⟩
theorem pd_inKD {a b : Expr} {wa wb : ME} {pos : Pos} (T : TabD G d tb) (ha : PDE G E X a wa) (hb : PDE G E X b wb) (hm : behindInMarks .In b = false := by rfl) (hK : G.K = X.K := by rfl) (hw : G.w = X.w := by first | rfl | assumption) : PDE G E X (.Compare a [.In] [b] pos) (mOp (dInKD d tb false) wa wb) := pd_cmp (op_inKD T hK hw) (od_inKD false) ha hb hm
theorem pt_inKD {a b : Expr} {wa wb : ME} {pos : Pos} (T : TabD G d tb) (ha : PDE G E X a wa) (hb : PDE G E X b wb) (hm : behindInMarks .In b = false := by rfl) (hK : G.K = X.K := by rfl) (hw : G.w = X.w := by first | rfl | assumption) : PDT G E X (.Compare a [.In] [b] pos) (mTest (mOp (dInKD d tb false) wa wb)) := pt_cmp (op_inKD T hK hw) (od_inKD false) ha hb hm
theorem pd_ninKD {a b : Expr} {wa wb : ME} {pos : Pos} (T : TabD G d tb) (ha : PDE G E X a wa) (hb : PDE G E X b wb) (hm : behindInMarks .NotIn b = false := by rfl) (hK : G.K = X.K := by rfl) (hw : G.w = X.w := by first | rfl | assumption) : PDE G E X (.Compare a [.NotIn] [b] pos) (mOp (dInKD d tb true) wa wb) := pd_cmp (op_notInKD T hK hw) (od_inKD true) ha hb hm
theorem pt_ninKD {a b : Expr} {wa wb : ME} {pos : Pos} (T : TabD G d tb) (ha : PDE G E X a wa) (hb : PDE G E X b wb) (hm : behindInMarks .NotIn b = false := by rfl) (hK : G.K = X.K := by rfl) (hw : G.w = X.w := by first | rfl | assumption) : PDT G E X (.Compare a [.NotIn] [b] pos) (mTest (mOp (dInKD d tb true) wa wb)) := pt_cmp (op_notInKD T hK hw) (od_inKD true) ha hb hm
theorem pd_ixKD {a b : Expr} {wa wb : ME} {pos : Pos} (T : TabD G d tb) (ha : PDE G E X a wa) (hb : PDE G E X b wb) (hs : PlainIx b := by intro _ _; rfl) (hK : G.K = X.K := by rfl) (hw : G.w = X.w := by first | rfl | assumption) : PDE G E X (.Subscript a b pos) (mOp (dIxKD d tb) wa wb) :=
  PE.weak (pe_ix (ix_KD T hK hw) ha hb hs) fun _ _ _ h => op_lift od_ixKD h
/-! ## a local name that holds a def -/
@[simp] def mCallT (i : Nat) (tb : List (Addr × DSp)) (w : MA) : ME := fun ρ st R xq => match ρ[i]? with
  | some (some (.raw (.ref f))) => ∃ dsp, (f, dsp) ∈ tb ∧ w ρ st (fun ds st1 => dsp ds st1 R noX) noX
  | _ => False
/-- a def that is called so -/
structure CalT (P : Program) (w : World) (G : Gm) (mg : Str → Option Value) (base : Heap) (k : Nat) (f : Addr) (dsp : DSp) : Prop where
  ex : ∃ fd ps, FnD P w G mg base CX0 k f fd ps dsp ∧ PySem.W.keepIn G.K (.ref f) = true ∧ Binds G.K fd ps []
open Classical in
theorem pd_callT {k i : Nat} {x : Str} {p pos : Pos} {e : Expr} {es : List Expr} {w : MA} {tb : List (Addr × DSp)} (A : ∀ q ∈ tb, CalT X.prog X.w G X.mg X.base k q.1 q.2) (hr : Room k X.A) (ha : ∀ E, PDA G E X (e :: es) w) (hi : X.N[i]? = some x := by rfl) (hv : Vis X.env.scope x := by first | exact Or.inl rfl | exact Or.inr (Or.inl rfl) | exact Or.inr (Or.inr rfl))
    (hdb : (x == ("__debug__" : Str)) = false := by decide) (hcd : (x == ("__classdict__" : Str)) = false := by decide)
    (he : starEach (e :: es) X.env = (false, eval e X.env) :: starEach es X.env := by rfl) (hpl : (backTo pos (starEach es X.env)).any (·.1) = false := by rfl) (hK : G.K = X.K := by rfl) :
    PDE G E X (.Call (.Name x p) (e :: es) [] pos) (mCallT i tb w) := by
  refine ⟨fun pins s σ H Q I h => ?_⟩
  obtain ⟨W, ρ, st, R, xq, rel, re, w1, o⟩ := h
  unfold mCallT at w1
  split at w1
  · rename_i f e1
    obtain ⟨dsp, hm, w1⟩ := w1
    obtain ⟨fd, ps, F, hk, hb⟩ := (A _ hm).ex
    unfold FnD at F
    rw [hK] at F hk hb
    obtain ⟨v, h1, h2⟩ := re.get i _ e1
    obtain rfl : v = V.ref f := h2
    refine (pe_callL (i := i) (f := f) (dvs := []) (E := E0) F hr hi hv hk hb .nil passA (ha E0) hdb hcd he hpl).run pins s σ H Q I ⟨h1, W, ρ, st, _, noX, rel, re, w1, ⟨fun W1 H1 ds vs st1 l1 rel1 rv w2 => ?_, fun _ _ _ _ _ _ z => z.elim⟩⟩
    exact ⟨W1, ds, st1, R, noX, rel1, by rw [List.append_nil]; exact rv, w2, ⟨(o.le l1).rt, fun _ _ _ _ _ _ z => z.elim⟩⟩
  · cases w1
/-! ## a < b < c -/
@[simp] def mChn (r r' : D2) (wa wb wc : ME) : ME := fun ρ st R xq => wa ρ st (fun x st1 => wb ρ st1 (fun y st2 => r x y st2 (fun z st3 => onB z fun k => if k = true then wc ρ st3 (fun u st4 => r' y u st4 R) xq else R (.bl false) st3)) xq) xq
theorem chn_lift {r r' : R2} {d d' : D2} {wa wb wc : ME} (h1 : OpD G r d) (h2 : OpD G r' d') {σ : L2.St} {H : Hp} {Q : VK} (h : tD G E (mChn d d' wa wb wc) σ H Q) : tChain r r' (tD G E wa) (tD G E wb) (tD G E wc) σ H Q := by
  obtain ⟨W, ρ, st, R, xq, rel, re, w, o⟩ := h
  refine ⟨W, ρ, st, _, xq, rel, re, w, ⟨fun W1 H1 dx x st1 l1 rel1 rx w1 => ?_, o.xq⟩⟩
  refine ⟨W1, ρ, st1, _, xq, rel1, re.le l1, w1, ⟨fun W2 H2 dy y st2 l2 rel2 ry w2 => ?_, (o.le l1).xq⟩⟩
  refine h1 E W2 H2 st2 dx dy x y _ xq _ rel2 (rx.le l2) ry w2 ⟨fun W3 H3 dz z st3 l3 rel3 rz w3 => ?_, (o.le (l1.trans l2)).xq⟩
  obtain ⟨k, rfl, w3⟩ := onB_of rz w3
  refine ⟨k, rfl, ?_⟩
  cases k with
  | false => exact o.rt W3 H3 (.bl false) _ st3 (l1.trans (l2.trans l3)) rel3 rfl w3
  | true =>
    refine ⟨W3, ρ, st3, _, xq, rel3, re.le (l1.trans (l2.trans l3)), w3, ⟨fun W4 H4 du u st4 l4 rel4 ru w4 => ?_, (o.le (l1.trans (l2.trans l3))).xq⟩⟩
    exact h2 E W4 H4 st4 dy du y u R xq Q rel4 (ry.le (l3.trans l4)) ru w4 (o.le (l1.trans (l2.trans (l3.trans l4))))
theorem pd_chn {a b c : Expr} {wa wb wc : ME} {op op' : CmpOp} {r r' : R2} {d d' : D2} {pos : Pos} (ho : OpR X (compareOp op) r) (hd : OpD G r d) (ho' : OpR X (compareOp op') r') (hd' : OpD G r' d') (ha : PDE G E X a wa) (hb : PDE G E X b wb) (hc : PDE G E X c wc)
    (hm : lastMarks [op, op'] [b, c] = false := by with_unfolding_all rfl) : PDE G E X (.Compare a [op, op'] [b, c] pos) (mChn d d' wa wb wc) :=
  PE.weak (pe_chain ho ho' ha hb hc hm) fun _ _ _ h => chn_lift hd hd' h
theorem pt_chn {a b c : Expr} {wa wb wc : ME} {op op' : CmpOp} {r r' : R2} {d d' : D2} {pos : Pos} (ho : OpR X (compareOp op) r) (hd : OpD G r d) (ho' : OpR X (compareOp op') r') (hd' : OpD G r' d') (ha : PDE G E X a wa) (hb : PDE G E X b wb) (hc : PDE G E X c wc)
    (hm : lastMarks [op, op'] [b, c] = false := by with_unfolding_all rfl) : PDT G E X (.Compare a [op, op'] [b, c] pos) (mTest (mChn d d' wa wb wc)) :=
  PT.weak (pt_chain ho ho' ha hb hc hm) fun σ H Q ⟨W, ρ, st, R, xq, rel, re, w, o⟩ => chn_lift hd hd' ⟨W, ρ, st, _, xq, rel, re, w, test_out o⟩
/-! ## texts -/
def strLe (i j : Str) : Bool := !decide (j.cps.toList < i.cps.toList)
def rLeS : R2 := fun x y H Q => ∃ i j, x = .str i ∧ y = .str j ∧ Q (.bl (strLe i j)) H
theorem op_leS : OpR X (compareOp .LtE) rLeS := op_le_str
/-- <=, of numbers, of texts -/
@[simp] def dLE : D2 := fun x y st R => match x, y with
  | .int i, .int j => R (.bl (decide (i ≤ j))) st
  | .str i, .str j => R (.bl (strLe i j)) st
  | _, _ => False
def rLE : R2 := fun x y H Q => rI0 (fun i j => .bl (decide (i ≤ j))) x y H Q ∨ rLeS x y H Q
theorem op_LE : OpR X (compareOp .LtE) rLE := op_le.or op_leS
theorem od_LE : OpD G rLE dLE := by
  intro E W H st dx dy x y R xq Q rel rx ry w o
  unfold dLE at w
  split at w
  · simp only [Rp] at rx ry; subst rx ry
    exact .inl ⟨_, _, rfl, rfl, o.rt W H (.bl _) _ st Le.refl rel rfl w⟩
  · simp only [Rp] at rx ry; subst rx ry
    exact .inr ⟨_, _, rfl, rfl, o.rt W H (.bl _) _ st Le.refl rel rfl w⟩
  · cases w
/-- slices: lists, tuples (the whole one is itself), texts -/
def rSLA (K : PySem.W.Frag) : V → Option Int → Option Int → Hp → VK → Prop := fun x lo hi H Q => rSlL K x lo hi H Q ∨ rSlA K x lo hi H Q ∨ rSlS x lo hi H Q
theorem sl_SLA : SlR X (rSLA X.K) := sl_list.or (sl_tupA.or sl_str)
def cutT (z : Str) (lo hi : Option Int) : Str := cutS z lo hi
@[simp] def dSlA (x : D) (lo hi : Option Int) (st : Sto) (R : DQ) : Prop := match dr st x with
  | .lst xs => R (.lst (cutD xs lo hi)) st
  | .scr xs => R (.lst (cutD xs lo hi)) st
  | .tup xs => R (.tup (cutD xs lo hi)) st
  | .str z => z.length ≤ sizeLine ∧ R (.str (cutT z lo hi)) st
  | _ => False
theorem cut_whole {α : Type} {xs : List α} {lo hi : Option Int} (h : HT.sIx xs.length 0 lo = 0 ∧ HT.sIx xs.length xs.length hi = xs.length) : (xs.drop (HT.sIx xs.length 0 lo)).take (HT.sIx xs.length xs.length hi - HT.sIx xs.length 0 lo) = xs := by
  rw [h.1, h.2]; simp
@[simp] def mSlA (we : ME) (wl wh : MO) : ME := fun ρ st R xq => we ρ st (fun x st1 => wl ρ st1 (fun lo st2 => wh ρ st2 (fun hi st3 => dSlA x lo hi st3 R) xq) xq) xq
theorem pd_slA {e : Expr} {lo hi : Option Expr} {we : ME} {wl wh : MO} {pos p2 : Pos} (he : PDE G E X e we) (hl : PDO G E X lo wl) (hh : PDO G E X hi wh) (hK : G.K = X.K := by rfl) : PDE G E X (.Subscript e (.Slice lo hi none p2) pos) (mSlA we wl wh) :=
  PE.weak (pe_slice sl_SLA he hl hh) fun σ H Q ⟨W, ρ, st, R, xq, rel, re, w, o⟩ =>
  ⟨W, ρ, st, _, xq, rel, re, w, ⟨fun W1 H1 d v st1 l1 rel1 rv w1 =>
    ⟨W1, ρ, st1, _, xq, rel1, re.le l1, w1, ⟨fun W2 H2 lo st2 l2 rel2 w2 =>
      ⟨W2, ρ, st2, _, xq, rel2, re.le (l1.trans l2), w2, ⟨fun W3 H3 hi st3 l3 rel3 w3 => by
        have rv3 := rv.le (l2.trans l3)
        have o3 := o.le (l1.trans (l2.trans l3))
        rw [← hK]
        unfold dSlA at w3
        split at w3
        · rename_i xs e
          obtain ⟨p, vs, h1, h2, h3⟩ := dr_lst rel3 rv3 e
          exact .inl ⟨p, vs, h1, SqL.of h2, fun q hq => o3.rt W3 _ (.lst _) _ st3 (Le.fresh hq) (rel3.fresh hq) (newL rel3 hq (cut_rp h3 lo hi)) w3⟩
        · rename_i xs e
          rw [dr_scr e] at rv3
          obtain ⟨p, vs, h1, h2, h3⟩ := scr_sq rv3
          exact .inl ⟨p, vs, h1, h2, fun q hq => o3.rt W3 _ (.lst _) _ st3 (Le.fresh hq) (rel3.fresh hq) (newL rel3 hq (cut_rp h3 lo hi)) w3⟩
        · rename_i xs e
          rw [dr_tup e] at rv3
          obtain ⟨p, vs, h1, h2, h3⟩ := tup_sq rv3
          refine .inr (.inl ⟨p, vs, h1, h2, fun hw => ?_, fun _ q hq => o3.rt W3 _ (.tup _) _ st3 (Le.fresh hq) (rel3.fresh hq) (newT rel3 hq (cut_rp h3 lo hi)) w3⟩)
          rw [h3.length] at hw
          have e2 : cutD xs lo hi = xs := cut_whole hw
          rw [e2] at w3
          exact o3.rt W3 H3 (.tup xs) (.ref p) st3 Le.refl rel3 (by rw [← h1]; exact rv3) w3
        · rename_i z e
          rw [dr_str e] at rv3
          simp only [Rp] at rv3
          exact .inr (.inr ⟨z, rv3, w3.1, o3.rt W3 H3 (.str _) _ st3 Le.refl rel3 rfl w3.2⟩)
        · exact w3.elim, (o.le (l1.trans l2)).xq⟩⟩, (o.le l1).xq⟩⟩, o.xq⟩⟩
/-- sep.join(list of texts) -/
@[simp] def allS (xs : List D) : Option (List Str) := match xs with
  | [] => some []
  | .str b :: r => (allS r).map (b :: ·)
  | _ => none
theorem allS_rp {K : PySem.W.Frag} {W : Wd} {H : Hp} : ∀ {ds : List D} {vs : List V} {bs : List Str}, RpL K W H ds vs → allS ds = some bs → vs = bs.map V.str
  | [], _, bs, h, e => by simp only [RpL] at h; subst h; simp [allS] at e; subst e; rfl
  | d :: ds, vs, bs, h, e => by
    simp only [RpL] at h
    obtain ⟨v, r, rfl, h1, h2⟩ := h
    cases d with
    | str b =>
      simp only [allS, Option.map_eq_some_iff] at e
      obtain ⟨cs, e1, rfl⟩ := e
      simp only [Rp] at h1
      rw [h1, allS_rp h2 e1]; rfl
    | _ => simp [allS] at e
theorem allS_strs : ∀ ns : List Str, allS (ns.map D.str) = some ns
  | [] => rfl
  | n :: ns => by simp [allS, allS_strs ns]
@[simp] def mJoin (wo we : ME) : ME := fun ρ st R xq => wo ρ st (fun x st1 => onS x fun a => we ρ st1 (fun y st2 => onL st2 y fun xs => ∃ ys, allS xs = some ys ∧ (ys.map (·.length)).sum + ys.length * a.length ≤ 16777216 ∧ R (.str (Txt.join a ys)) st2) xq) xq
theorem pd_join {o e : Expr} {wo we : ME} {apos pos : Pos} (ho : PDE G E X o wo) (he : PDE G E X e we) (hs : starEach [e] X.env = [(false, eval e X.env)] := by rfl) (hbase : attributeBase o "join" X.env (eval o X.env) = eval o X.env := by rfl) (hline : (apos.endLine == pos.line) = true := by rfl) (hK : G.K = X.K := by rfl) :
    PDE G E X (.Call (.Attribute o "join" apos) [e] [] pos) (mJoin wo we) :=
  PE.weak (pe_join ho he hs hbase hline) fun σ H Q ⟨W, ρ, st, R, xq, rel, re, w, o⟩ =>
    ⟨W, ρ, st, _, xq, rel, re, w, ⟨fun W1 H1 dx x st1 l1 rel1 rx w1 => by
      obtain ⟨a, rfl, w1⟩ := onS_of rx w1
      refine ⟨⟨a, rfl⟩, W1, ρ, st1, _, xq, rel1, re.le l1, w1, ⟨fun W2 H2 dy y st2 l2 rel2 ry w2 => ?_, (o.le l1).xq⟩⟩
      obtain ⟨p, vs, xs, rfl, h1, h2, ys, e1, hz, w2⟩ := onL_of rel2 ry w2
      obtain rfl := allS_rp h2 e1
      exact ⟨a, p, ys, rfl, rfl, .inl (by rw [← hK]; exact h1), hz, o.rt W2 H2 (.str _) _ st2 (l1.trans l2) rel2 rfl w2⟩, o.xq⟩⟩
end
end DL

set_option Elab.async false
set_option linter.all false
set_option maxRecDepth 100000
set_option autoImplicit false
namespace DL
open PySem PySem.Spec PyProof.Rows L2
/-! ## list.extend of a tuple -/
open AutoSeq1 in
theorem ext_tup (l b : Addr) (n n2 : Nat) (items items2 : Array Value) (dd : Option Addr) (sl : Array (Option Value)) (hs0 : ¬(!items.isEmpty && Builtin.List.listTooLong (items.size + items2.size)) = true) (hs1 : items.size ≤ sizeLine) (hs2 : items.size + items2.size ≤ sizeLine + 1) :
    Meets (Builtin.«list.extend» ⟨[.ref l, .ref b], []⟩) (fun _ R s => s.heap.get? l = some ⟨.type "list", none, .seq items n, #[]⟩ ∧ s.heap.get? b = some ⟨.type "tuple", dd, .seq items2 n2, sl⟩ ∧
      R (.ok (.ret .none)) { s with heap := s.heap.update l (Obj.mapSeq fun z => z ++ items2) }) :=
  .of_wp fun P w A R s h => by
    obtain ⟨hp, g, d, tk, os⟩ := s
    obtain ⟨hl, hb, h⟩ := h
    have f1 := idx_int; have f2 := AutoSeq1.sub_tuple_tuple; have f3 := AutoSeq1.sub_list_list
    have f4 := AutoSeq1.sub_tuple_list; have f5 := AutoSeq1.sub_list_tuple
    have hz' : (items ++ items2).size ≤ sizeLine + 1 := by rw [Array.size_append]; exact hs2
    wp_walk using (wpAny_updateSeq hl rfl (hz := hs1) (_hz' := hz')), wpAny_loadPart' hl, wpAny_loadPart' hb
    exact ⟨_, rfl, h⟩
def rExtT (K : PySem.W.Frag) : V → List V → Hp → VK → Prop := fun x vs H Q => ∃ l b xs zs, x = .ref l ∧ vs = [.ref b] ∧ H l = some (.lst xs) ∧ SqT K H b zs ∧ xs.length + zs.length ≤ sizeLine ∧ Q .non (upd H l (.lst (xs ++ zs)))
def rEXT (K : PySem.W.Frag) : V → List V → Hp → VK → Prop := fun x vs H Q => rExtend x vs H Q ∨ rExtT K x vs H Q
theorem mt_EXT {X : Cx} : MtR X "list.extend" (rEXT X.K) := by
  intro pins s σ H x vs v us Q I rx rv h
  rcases h with h | h
  · exact mt_extend pins s σ H x vs v us Q I rx rv h
  obtain ⟨l, b, xs, zs, rfl, rfl, hH, hT, hz, q⟩ := h
  cases rx
  obtain ⟨u, rfl, ru⟩ := rv.one
  cases ru
  obtain ⟨z, its, n, r, hl, e⟩ := I.lstM hH
  obtain ⟨its2, r2, ⟨⟨cls, dd, data, sl⟩, e2, hc, n2, hd⟩, _⟩ := I.tuple hT
  simp only at hc hd
  subst hc hd
  have l2 := r2.length
  have hsz : its.toArray.size + its2.toArray.size ≤ sizeLine := by rw [List.size_toArray, List.size_toArray]; omega
  refine call_meets F.slot_list_extend ⟨_, e, rfl⟩ F.entry_list_extend (F.args_list_extend_2 _ _) (ext_tup l b n n2 its.toArray its2.toArray dd sl (by rw [notLongL hsz, Bool.and_false]; decide) (by rw [List.size_toArray]; omega) (by omega)) ⟨e, e2, ?_⟩
  refine ⟨.non, _, I.lset (its' := its ++ its2) hH e (by simp) (r.append r2) (by rw [List.length_append]; omega), rfl, q⟩
section
variable {G : Gm} {E : XK} {X : Cx}
@[simp] def dExtA : DM := fun x ds st R => match ds with | [y] => onH st x fun j xs => (match dr st y with | .lst ys => xs.length + ys.length ≤ sizeLine ∧ R .non (st.set j (.lst (xs ++ ys))) | .tup ys => xs.length + ys.length ≤ sizeLine ∧ R .non (st.set j (.lst (xs ++ ys))) | _ => False) | _ => False
theorem md_extA (hK : G.K = X.K) : MeD G (rEXT X.K) dExtA := by
  intro E W H st dx ds x vs R xq Q rel rx rs w o
  rw [← hK]
  unfold dExtA at w
  split at w
  · obtain ⟨v, rfl, rv⟩ := rpl1 rs
    obtain ⟨j, a, xs, us, rfl, h1, h2, h3, w⟩ := onH_of rel rx w
    split at w
    · rename_i ys e
      obtain ⟨b, zs, rfl, h5, h6⟩ := dr_lst rel rv e
      exact .inl ⟨a, b, us, zs, rfl, rfl, h2, h5, by rw [h3.length, h6.length]; exact w.1, o.rt W _ .non _ _ (Le.write (rel.mem h1)) (wrL rel h1 (h3.append h6)) rfl w.2⟩
    · rename_i ys e
      rw [dr_tup e] at rv
      obtain ⟨b, zs, rfl, h5, h6⟩ := tup_sq rv
      exact .inr ⟨a, b, us, zs, rfl, rfl, h2, h5, by rw [h3.length, h6.length]; exact w.1, o.rt W _ .non _ _ (Le.write (rel.mem h1)) (wrL rel h1 (h3.append h6)) rfl w.2⟩
    · cases w
  · cases w
end
/-! ## isinstance by a tuple of built-in types -/
def rIsiQ (K : PySem.W.Frag) : List V → Hp → VK → Prop := fun xs H Q => ∃ (x : V) (tp : Addr) (cs : List V) (t : Value) (us : List Value) (b : Bool), xs = [x, .ref tp] ∧ SqT K H tp cs ∧ Paired ClsV cs us ∧ TyX K H x t ∧ PySem.W.kitAny K t us = some b ∧ Q (.bl b) H
theorem call_isiQ {X : Cx} : CallR X (.builtin "isinstance") (rIsiQ X.K) := by
  intro pins s σ H xs us Q I r h
  obtain ⟨x, tp, cs, t, ws, b, rfl, hT, k, ty, e, q⟩ := h
  obtain ⟨u1, u2, rfl, r1, r2⟩ := vals2 r
  obtain rfl : u2 = Value.ref tp := r2
  obtain ⟨P, Z, p, hx⟩ := kit_of I r1 ty
  obtain ⟨its, ⟨oc, od, dt, sl⟩, n, rv, h1, h2, h3⟩ := sqT_at I.hok I.kIn hT
  have e3 := ClsV.all k rv
  subst e3
  simp only at h2 h3
  subst h2 h3
  exact PySem.W.kia_tup Z I.kIn p h1 e hx fun tk => ⟨.bl b, H, I.tok tk, rfl, q⟩
/-- the answer for one type, for several -/
def kitBs (t : String) : List String → Option Bool
  | [] => some false
  | c :: cs => match kitB t c with
    | some true => some true
    | some false => kitBs t cs
    | none => none
theorem kitBs_any {K : PySem.W.Frag} {t : String} : ∀ {cs : List String} {b : Bool}, kitBs t cs = some b → PySem.W.kitAny K (.type t) (cs.map Value.type) = some b
  | [], b, h => by simp only [kitBs] at h; cases h; exact kitAny_nil
  | c :: cs, b, h => by
    simp only [kitBs] at h
    split at h
    · rename_i e
      cases h
      exact kitAny_cons (kit_ty e) (fun z => by cases z) fun _ => rfl
    · rename_i e
      exact kitAny_cons (kit_ty e) (fun _ => kitBs_any h) fun z => by cases z
    · cases h
theorem cls_tys : ∀ cs : List String, Paired ClsV (cs.map V.ty) (cs.map Value.type)
  | [] => .nil
  | c :: cs => .cons (.ty c) (cls_tys cs)
theorem raws_ty {K : PySem.W.Frag} {W : Wd} {H : Hp} : ∀ {us : List String} {vs : List V}, RpL K W H (us.map fun a => D.raw (.ty a)) vs → vs = us.map V.ty
  | [], vs, h => by simpa only [List.map, RpL] using h
  | u :: us, vs, h => by
    simp only [List.map, RpL, Rp] at h
    obtain ⟨v, r, rfl, rfl, h2⟩ := h
    rw [raws_ty h2]; rfl
section
variable {G : Gm} {E : XK} {X : Cx}
@[simp] def dIsiT (cs : List String) : D1 := fun ds st R => match ds with
  | [x, .tup us] => us = cs.map (fun a => D.raw (.ty a)) ∧ ∃ t b, tyD st x = some t ∧ kitBs t cs = some b ∧ R (.bl b) st
  | _ => False
theorem cd_isiT {cs : List String} (hK : G.K = X.K) : CaD G (rIsiQ X.K) (dIsiT cs) := by
  intro E W H st ds vs R xq Q rel rs w o
  rw [← hK]
  unfold dIsiT at w
  split at w
  · rename_i x us
    obtain ⟨rfl, t, b, h1, h2, w⟩ := w
    obtain ⟨v, u, rfl, rv, ru⟩ := rpl2 rs
    obtain ⟨a, ws, rfl, h3, h4⟩ := tup_sq ru
    obtain rfl := raws_ty h4
    exact ⟨v, a, _, .type t, _, b, rfl, h3, cls_tys cs, tyD_x rel rv h1, kitBs_any h2, o.rt W H (.bl b) _ st Le.refl rel rfl w⟩
  · cases w
end
/-! ## dict(pairs) -/
def mergeD (kvs more : List (Key × D)) : List (Key × D) := more.foldl (fun acc kv => putD acc kv.1 kv.2) kvs
theorem RpK.merge {K : PySem.W.Frag} {W : Wd} {H : Hp} : ∀ {more : List (Key × D)} {ms : List (Key × V)} {kvs : List (Key × D)} {vs : List (Key × V)}, RpK K W H more ms → RpK K W H kvs vs → RpK K W H (mergeD kvs more) (mergeK vs ms)
  | [], ms, kvs, vs, h, h' => by simp only [RpK] at h; subst h; exact h'
  | (k, d) :: more, ms, kvs, vs, h, h' => by
    simp only [RpK] at h
    obtain ⟨v, r, rfl, h1, h2⟩ := h
    show RpK K W H (mergeD (putD kvs k d) more) (mergeK (putK vs k v) r)
    exact RpK.merge h2 (h'.put h1)
/-- a list of pairs, as keys and values -/
@[simp] def pairsD : List D → Option (List (Key × D))
  | [] => some []
  | .tup [k, v] :: r => match toK k, pairsD r with
    | some key, some kvs => some ((key, v) :: kvs)
    | _, _ => none
  | _ => none
theorem pairs_rp {K : PySem.W.Frag} {W : Wd} {H : Hp} : ∀ {ds : List D} {vs : List V} {kvs : List (Key × D)}, RpL K W H ds vs → pairsD ds = some kvs → ∃ (ps : List Addr) (us : List (Key × V)), vs = ps.map V.ref ∧ RpK K W H kvs us ∧ Paired (fun p kv => SqT K H p [kV kv.1, kv.2]) ps us
  | [], vs, kvs, h, e => by
    simp only [RpL] at h
    simp only [pairsD] at e
    cases e
    subst h
    exact ⟨[], [], rfl, by simp only [RpK], .nil⟩
  | d :: ds, vs, kvs, h, e => by
    simp only [RpL] at h
    obtain ⟨v, r, rfl, h1, h2⟩ := h
    unfold pairsD at e
    split at e
    · cases ‹_ :: _ = []›
    · rename_i k x r' heq
      cases heq
      split at e
      · rename_i key kvs' e1 e2
        cases e
        obtain ⟨a, ws, rfl, h3, h4⟩ := tup_sqK h1
        obtain ⟨kv', xv, rfl, q1, q2⟩ := rpl2 h4
        obtain rfl := toK_of q1 e1
        obtain ⟨ps, us, rfl, q3, q4⟩ := pairs_rp h2 e2
        exact ⟨a :: ps, (key, xv) :: us, rfl, ⟨xv, us, rfl, q2, q3⟩, .cons h3 q4⟩
      · cases e
    · cases e
def rDictP (K : PySem.W.Frag) : List V → Hp → VK → Prop := fun xs H Q => ∃ (a : Addr) (ps : List Addr) (kvs : List (Key × V)), xs = [.ref a] ∧ SqL K H a (ps.map V.ref) ∧ Paired (fun p kv => SqT K H p [kV kv.1, kv.2]) ps kvs ∧ ∀ p, H p = none → Q (.ref p) (upd H p (.dK (mergeK [] kvs)))
theorem call_DICTP {X : Cx} (hc : X.calm = true) : CallR X (.type "dict") (rDictP X.K) := call_dictP hc
def rDICT (K : PySem.W.Frag) : List V → Hp → VK → Prop := fun xs H Q => rDict xs H Q ∨ rDictP K xs H Q
section
variable {G : Gm} {E : XK} {X : Cx}
/-- dict(..): a copy of a dict; of a list of pairs -/
@[simp] def dDictA : D1 := fun ds st R => match ds with
  | [d] => (match dr st d with
    | .lst xs => ∃ kvs, pairsD xs = some kvs ∧ R (.hdl st.length) (st ++ [.dK (mergeD [] kvs)])
    | _ => onK st d fun _ kvs => R (.hdl st.length) (st ++ [.dK kvs]))
  | _ => False
theorem cd_dictA (hK : G.K = X.K) : CaD G (rDICT X.K) dDictA := by
  intro E W H st ds vs R xq Q rel rs w o
  rw [← hK]
  unfold dDictA at w
  split at w
  · obtain ⟨v, rfl, rv⟩ := rpl1 rs
    split at w
    · rename_i xs e
      obtain ⟨kvs, e1, w⟩ := w
      obtain ⟨a, us, rfl, h1, h2⟩ := dr_lst rel rv e
      obtain ⟨ps, ws, rfl, h3, h4⟩ := pairs_rp h2 e1
      have h5 := h3.merge (kvs := []) (vs := []) (by simp only [RpK])
      exact .inr ⟨a, ps, ws, rfl, SqL.of h1, h4, fun p hp => o.rt _ _ (.hdl st.length) _ _ (Le.new hp) (newHK rel hp h5).1 (newHK rel hp h5).2 w⟩
    · obtain ⟨j, a, kvs, us, rfl, h1, h2, h3, w⟩ := onK_of rel rv w
      exact .inl ⟨a, us, rfl, h2, fun p hp => o.rt _ _ (.hdl st.length) _ _ (Le.new hp) (newHK rel hp h3).1 (newHK rel hp h3).2 w⟩
  · cases w
theorem call_DICTA (hc : X.calm = true) : CallR X (.type "dict") (rDICT X.K) := (show CallR X (.type "dict") rDict from call_DICT).or (call_DICTP hc)
/-! ## sorted(a dict of numbers) -/
def rSortDI : List V → Hp → VK → Prop := fun xs H Q => ∃ (a : Addr) (kvs : List (Key × V)) (ks : List Int), xs = [.ref a] ∧ Rd H a (.dK kvs) ∧ kvs.map (·.1) = ks.map Sum.inl ∧ ks.length < 64 ∧ ∀ (ys : List Int) (p : Addr), ys.Perm ks → ys.Pairwise (· ≤ ·) → H p = none → Q (.ref p) (upd H p (.lst (ys.map V.int)))
theorem call_SORTDI (hc : X.calm = true) : CallR X (.builtin "sorted") rSortDI := call_sortedDI hc
@[simp] def keysI : List (Key × D) → Option (List Int)
  | [] => some []
  | (.inl i, _) :: r => (keysI r).map (i :: ·)
  | _ => none
theorem keysI_rp {K : PySem.W.Frag} {W : Wd} {H : Hp} : ∀ {kvs : List (Key × D)} {vs : List (Key × V)} {ks : List Int}, RpK K W H kvs vs → keysI kvs = some ks → vs.map (·.1) = ks.map Sum.inl ∧ ks.length = kvs.length
  | [], vs, ks, h, e => by simp only [RpK] at h; simp only [keysI] at e; cases e; subst h; exact ⟨rfl, rfl⟩
  | (k, d) :: kvs, vs, ks, h, e => by
    simp only [RpK] at h
    obtain ⟨v, r, rfl, h1, h2⟩ := h
    cases k with
    | inl i =>
      simp only [keysI, Option.map_eq_some_iff] at e
      obtain ⟨ks', e1, rfl⟩ := e
      obtain ⟨q1, q2⟩ := keysI_rp h2 e1
      exact ⟨by simp [q1], by simp [q2]⟩
    | inr x => simp [keysI] at e
/-- sorted(..) of a dict's numbers -/
@[simp] def dSortK : D1 := fun ds st R => match ds with
  | [d] => onK st d fun _ kvs => ∃ ks, keysI kvs = some ks ∧ ks.length < 64 ∧ ∀ ys : List Int, ys.Perm ks → ys.Pairwise (· ≤ ·) → R (.lst (ys.map D.int)) st
  | _ => False
theorem cd_sortK : CaD G rSortDI dSortK := by
  intro E W H st ds vs R xq Q rel rs w o
  unfold dSortK at w
  split at w
  · obtain ⟨v, rfl, rv⟩ := rpl1 rs
    obtain ⟨j, a, kvs, us, rfl, h1, h2, h3, ks, e, hl, w⟩ := onK_of rel rv w
    obtain ⟨q1, q2⟩ := keysI_rp h3 e
    exact ⟨a, us, ks, rfl, .inl h2, q1, hl, fun ys p h4 h5 hp => o.rt W _ (.lst _) _ st (Le.fresh hp) (rel.fresh hp) (newL rel hp (RpL.of_ints ys)) (w ys h4 h5)⟩
  · cases w
/-! ## tuples: +, * -/
def rADDT (K : PySem.W.Frag) : R2 := fun x y H Q => rADD x y H Q ∨ rCatA K x y H Q
theorem op_ADDT : OpR X (binaryOp .Add) (rADDT X.K) := op_ADD.or op_catA
@[simp] def dAddA : D2 := fun x y st R => match dr st x, dr st y with
  | .int i, .int j => R (.int (i + j)) st
  | .str i, .str j => i.length + j.length ≤ sizeLine ∧ R (.str (i ++ j)) st
  | .lst a, .lst b => a.length + b.length ≤ sizeLine ∧ R (.lst (a ++ b)) st
  | .tup a, .tup b => a.length + b.length ≤ sizeLine ∧ R (.tup (a ++ b)) st
  | _, _ => False
theorem od_addA (hK : G.K = X.K) : OpD G (rADDT X.K) dAddA := by
  intro E W H st dx dy x y R xq Q rel rx ry w o
  rw [← hK]
  by_cases ht : ∃ a b, dr st dx = .tup a ∧ dr st dy = .tup b
  · obtain ⟨a, b, e1, e2⟩ := ht
    simp only [dAddA, e1, e2] at w
    rw [dr_tup e1] at rx
    rw [dr_tup e2] at ry
    obtain ⟨p, vs, rfl, h1, h2⟩ := tup_sq rx
    obtain ⟨q, us, rfl, h3, h4⟩ := tup_sq ry
    refine .inr ⟨p, q, vs, us, rfl, rfl, h1, h3, by rw [h2.length, h4.length]; exact w.1, fun hx => ?_, fun hx hy => ?_, fun _ _ r hr => o.rt W _ (.tup (a ++ b)) _ st (Le.fresh hr) (rel.fresh hr) (newT rel hr (h2.append h4)) w.2⟩
    · have : a = [] := by have := h2.length; rw [hx] at this; exact List.eq_nil_of_length_eq_zero this.symm
      subst this
      exact o.rt W H (.tup b) _ st Le.refl rel ry w.2
    · have : b = [] := by have := h4.length; rw [hy] at this; exact List.eq_nil_of_length_eq_zero this.symm
      subst this
      rw [List.append_nil] at w
      exact o.rt W H (.tup a) _ st Le.refl rel rx w.2
  · refine .inl (od_add E W H st dx dy x y R xq Q rel rx ry ?_ o)
    unfold dAddA at w
    unfold dAdd
    split at w
    · rename_i e1 e2; simp only [e1, e2]; exact w
    · rename_i e1 e2; simp only [e1, e2]; exact w
    · rename_i e1 e2; simp only [e1, e2]; exact w
    · rename_i e1 e2; exact (ht ⟨_, _, e1, e2⟩).elim
    · cases w
def rMULT (K : PySem.W.Frag) : R2 := fun x y H Q => rMUL x y H Q ∨ rRepT K x y H Q
theorem op_MULT : OpR X (binaryOp .Mult) (rMULT X.K) := op_MUL.or op_repT
@[simp] def dMulA : D2 := fun x y st R => match dr st x, y with
  | .int i, .int j => CMulX i j ∧ R (.int (i * j)) st
  | .lst a, .int k => -(2 ^ 63) ≤ k ∧ k < 2 ^ 63 ∧ a.length * k.toNat ≤ sizeLine ∧ R (.lst (List.replicate k.toNat a).flatten) st
  | .tup a, .int k => a ≠ [] ∧ 2 ≤ k ∧ k ≤ 1000 ∧ a.length ≤ 1000 ∧ R (.tup (List.replicate k.toNat a).flatten) st
  | _, _ => False
theorem od_mulA (hK : G.K = X.K) : OpD G (rMULT X.K) dMulA := by
  intro E W H st dx dy x y R xq Q rel rx ry w o
  rw [← hK]
  unfold dMulA at w
  split at w
  · rename_i i j e1
    exact .inl (od_mul E W H st dx _ x y R xq Q rel rx ry (by unfold dMul; simp only [e1]; exact w) o)
  · rename_i a k e1
    exact .inl (od_mul E W H st dx _ x y R xq Q rel rx ry (by unfold dMul; simp only [e1]; exact w) o)
  · rename_i a k e1
    rw [dr_tup e1] at rx
    obtain ⟨p, vs, rfl, h1, h2⟩ := tup_sq rx
    simp only [Rp] at ry
    obtain ⟨w1, w2, w3, w4, w5⟩ := w
    refine .inr ⟨p, k, vs, rfl, ry, h1, fun z => ?_, w2, w3, by rw [h2.length]; exact w4, fun r hr => o.rt W _ (.tup _) _ st (Le.fresh hr) (rel.fresh hr) (newT rel hr (h2.rep _)) w5⟩
    have := h2.length
    rw [z] at this
    exact w1 (List.eq_nil_of_length_eq_zero this.symm)
  · cases w
end
end DL

set_option Elab.async false
set_option linter.all false
set_option maxRecDepth 100000
set_option autoImplicit false
namespace L2
open PySem PySem.Spec PyProof.Rows
/-! ## o.m(e, .., k = v, ..) -/
def tMethN (C : Addr) (m : Str) (n j : Nat) (sp : Sp) (gV : List V → List V → List V) (E : XK) (ta : TE) (t tk : TA) : TE := fun σ H Q => ta σ H fun x H1 => ∃ a dx fs, x = .ref a ∧ H1 a = some (.ins C dx fs) ∧ fs.lookup m = none ∧
  t σ H1 fun vs H2 => tk σ H2 fun zs H3 => (x :: vs).length = n ∧ zs.length = j ∧ sp (gV (x :: vs) zs) H3 Q E
theorem pe_methN {X : Cx} {CX : CXT} {k n : Nat} {f C : Addr} {fd : FuncData} {ps ks : List Str} {sp : Sp} {E : XK} {m : Str} {o e : Expr} {es : List Expr} {kws : List Keyword} {pos apos : Pos} {ta : TE} {t tk : TA} {g : List Value → List Value → List Value} {gV : List V → List V → List V} {pl : Sem Bool}
    (he : PE X o ta) (c : Cls X.K C) (hm : Meth X.K C m f) (F : FnOk X.prog X.w X.K X.mg X.base CX k f fd ps sp) (hr : Room k X.A) (hb : KBn X.K fd ps n ks g gV) (hx : Passes CX X E) (ha : PA X (e :: es) t) (hkw : PK X kws tk)
    (hall : (backToKw pos (keywordEach kws X.env)).all (·.1.isSome) = true := by rfl) (hks : (backToKw pos (keywordEach kws X.env)).filterMap (·.1) = ks := by rfl)
    (hst : starEach (e :: es) X.env = (false, eval e X.env) :: starEach es X.env := by rfl) (hpl : ((backTo pos (starEach (e :: es) X.env)).any (·.1) || (backToKw pos (keywordEach kws X.env)).any (·.1.isNone)) = false := by rfl)
    (ht : eval (.Call (.Attribute o m apos) (e :: es) kws pos) X.env = (do
      let ov ← eval o X.env
      standAt apos.atName
      let (f, first) ← holding [ov] (getMethod ov m pl)
      callWith pos f first (backTo pos (starEach (e :: es) X.env)) (backToKw pos (keywordEach kws X.env))) := by rfl) :
    PE X (.Call (.Attribute o m apos) (e :: es) kws pos) (tMethN C m n ks.length sp gV E ta t tk) := by
  refine ⟨fun pins s σ H Q I h => PySem.W.methodCall_KW (pl := pl) (thn (he.run pins s σ H _ I h) fun u s1 ⟨x, H1, I1, rx, a, dx, fs, ex, ea, l, q⟩ => ?_) ht⟩
  subst ex
  obtain rfl : u = Value.ref a := rx
  refine getmeth_ok I1 ea c hm l (PySem.W.callWith_KW (first := [.ref a]) (h₀ := X.base) I.ok.mod.kin hm.kp hall (thn (ha.run pos pins s1 σ H1 _ I1 q) fun us s2 ⟨vs, H2, I2, r, q2⟩ => ?_) hpl hst)
  refine thn (hkw.run pos pins s2 σ H2 _ I2 q2) fun ws s3 ⟨zs, H3, I3, rz, l1, l2, q3⟩ => ⟨I3.kIn, ?_⟩
  rw [hks]
  exact run_fnN (us := .ref a :: us) (vs := .ref a :: vs) F hr hb hx I3 (.cons rfl r) rz l1 l2 q3
/-- values that fill up -/
theorem KBn.of_binds {K : PySem.W.Frag} {fd : FuncData} {ps : List Str} {ds : List Value} {dvs : List V} (n : Nat) (b : Binds K fd ps ds) (hd : Vals dvs ds) (hn : n + dvs.length = ps.length) : KBn K fd ps n [] (fun us ws => us ++ ds) (fun vs zs => vs ++ dvs) :=
  ⟨fun s us ws X l1 _ => b s us X (by rw [List.length_append, ← hd.length]; omega), fun r _ => r.append hd⟩
/-! ## sorted of pairs whose first parts are texts, all unlike -/
def IsPS (h : Heap) (v : Value) (x : Str) : Prop := ∃ a o t y n, v = .ref a ∧ h.get? a = some o ∧ o.cls = .type "tuple" ∧ o.data = .seq #[.str x t, y] n
theorem IsPS.keeps {h h' : Heap} {v : Value} {x : Str} (p : IsPS h v x) (k : ∀ b o, h.get? b = some o → o.cls = .type "tuple" → h'.get? b = some o) : IsPS h' v x := by
  obtain ⟨a, o, t, y, n, e, ho, hc, hd⟩ := p
  exact ⟨a, o, t, y, n, e, k _ _ ho hc, hc, hd⟩
def ltT (x y : Str) : Bool := decide (x.cps.toList < y.cps.toList)
theorem ltT_irr (x : Str) : ltT x x = false := by unfold ltT; exact decide_eq_false (List.lt_irrefl _)
theorem ltT_swo {α : Type} (k : α → Str) : SrtO.Swo fun x y => ltT (k x) (k y) := by
  refine ⟨fun x y h => ?_, fun x y z h1 h2 => ?_⟩
  · unfold ltT at h ⊢
    exact decide_eq_false (List.lt_asymm (of_decide_eq_true h))
  · unfold ltT at h1 h2 ⊢
    exact decide_eq_false fun q => (List.not_lt.mpr (Std.le_trans (List.not_lt.mp (of_decide_eq_false h1)) (List.not_lt.mp (of_decide_eq_false h2)))) q
open SrtO Srt in
theorem ps_cmp {prog : Program} {w : World} {A : Around} {s : Shared} {vs : List Value} {k : Value → Str} (hp : ∀ v ∈ vs, IsPS s.heap v (k v)) (hu : ∀ v ∈ vs, ∀ u ∈ vs, k v = k u → v = u) : SrtO.Cmp prog w A s (tuples' true) (fun p => p.1 ∈ vs) (lt2 fun v u => ltT (k v) (k u)) := by
  intro p q hm hm'
  have h1 := hp _ hm
  have h2 := hp _ hm'
  have h3 := hu _ hm _ hm'
  show wpAny (model prog w) A (keyLt' (tuples' true) p.1 q.1) (fun r s' => s' = s ∧ r = ltT (k p.1) (k q.1)) (fun _ _ => False) s
  generalize k p.1 = x at h1 h3 ⊢
  generalize k q.1 = x' at h2 h3 ⊢
  obtain ⟨a, o, t, y, n, e, ho, hc, hd⟩ := h1
  obtain ⟨a', o', t', y', n', e', ho', hc', hd'⟩ := h2
  rw [e, e'] at h3 ⊢
  refine PySem.W.kat_lt ho hd ho' hd' ?_
  show PySem.W.KatLex prog w A true (decide (2 < 2)) _ [(.str x t, .str x' t'), (y, y')] 0 s
  refine PySem.W.kat_cons (SeqAt.EqAt.str_str x t x' t' prog w _ _ ?_)
  refine PySem.W.kat_go (fun e1 => ?_) (fun e1 => ?_)
  · have ex : x = x' := by simpa using e1
    have ea := h3 ex
    cases ea
    rw [ho] at ho'; cases ho'
    rw [hd] at hd'
    injection hd' with q1 _
    have q2 : y = y' := by
      have := congrArg (fun (z : Array Value) => z[1]?) q1
      simpa using this
    subst ex q2
    refine PySem.W.kat_yes (PySem.W.kat_cons (SeqAt.EqAt.same y prog w _ _ ?_))
    refine PySem.W.kat_go (fun _ => PySem.W.kat_yes (PySem.W.kat_nil ⟨rfl, (ltT_irr x).symm⟩)) fun z => by cases z
  · exact PySem.W.kat_no (oneLt_str ⟨rfl, rfl⟩)
theorem ps_firsts {h : Heap} : ∀ {vs : List Value}, (∀ v ∈ vs, ∃ x, IsPS h v x) → ∃ fs : List Value, PySem.W.KatTups h vs fs ∧ fs.length = vs.length ∧ ∀ f ∈ fs, ∃ x t, f = Value.str x t
  | [], _ => ⟨[], PySem.W.KatTups.nil, rfl, fun _ hm => by simp at hm⟩
  | v :: vs, hp => by
    obtain ⟨fs, h1, h2, h3⟩ := ps_firsts (vs := vs) fun v' hm => hp v' (by simp [hm])
    obtain ⟨x, a, o, t, y, n, rfl, ho, hc, hd⟩ := hp v (by simp)
    refine ⟨.str x t :: fs, PySem.W.KatTups.cons ho hc hd rfl h1, by simp [h2], fun f hm => ?_⟩
    rcases List.mem_cons.mp hm with rfl | hm
    · exact ⟨x, t, rfl⟩
    · exact h3 f hm
theorem ps_sortable {prog : Program} {w : World} {A : Around} {s : Shared} {a : Addr} {vs : List Value} {k : Value → Str} (h0 : 0 < vs.length) (hp : ∀ v ∈ vs, IsPS s.heap v (k v)) (hu : ∀ v ∈ vs, ∀ u ∈ vs, k v = k u → v = u) (ha : ∀ o, s.heap.get? a = some o → o.cls ≠ .type "tuple") : SrtO.SortableO prog w A s a vs fun v u => ltT (k v) (k u) := by
  intro h' keep
  have hp' : ∀ v ∈ vs, IsPS h' v (k v) := fun v hm => (hp v hm).keeps fun b o e c => keep b o (fun z => by subst z; exact ha o e c) e
  obtain ⟨fs, h1, h2, h3⟩ := ps_firsts fun v hm => ⟨_, hp' v hm⟩
  refine ⟨_, fun Q E hq => ?_, ps_cmp hp' hu⟩
  refine PySem.W.kat_kind (T := .type "str") h1 (by omega) (fun f hm => ?_) (by rfl) ?_
  · obtain ⟨x, t, rfl⟩ := h3 f hm
    exact PySem.W.Looks.now
  · have e : (Value.type "str" != Value.type "tuple") = true := by first | decide +kernel | rfl | decide
    rw [e]; exact hq
/-- sorted(xs), xs a list of pairs (text, anything), the texts unlike -/
def rSortPS (K : PySem.W.Frag) : List V → Hp → VK → Prop := fun vs H Q => ∃ (a : Addr) (xs : List V) (ks : List Str), vs = [V.ref a] ∧ SqL K H a xs ∧ Paired (fun x z => ∃ t y, x = V.ref t ∧ SqT K H t [.str z, y]) xs ks ∧ ks.Nodup ∧
  ∀ (l : List (V × Str)) p, l.Perm (xs.zip ks) → l.Pairwise (fun x y => ltT y.2 x.2 = false) → H p = none → Q (.ref p) (upd H p (.lst (l.map (·.1))))
open Classical in
theorem cr_sortPS {X : Cx} : CallR X (.builtin "sorted") (rSortPS X.K) := by
  intro pins s σ H vs us Q I r h
  obtain ⟨a, xs, ks, rfl, hs, hxk, hnd, q⟩ := h
  obtain ⟨k, hk⟩ : ∃ k : V → Str, ∀ x z t y, x = V.ref t → SqT X.K H t [.str z, y] → k x = z := by
    refine ⟨fun x => if h : ∃ z t y, x = V.ref t ∧ SqT X.K H t [.str z, y] then h.choose else ⟨#[]⟩, fun x z t y e ht => ?_⟩
    have h : ∃ z t y, x = V.ref t ∧ SqT X.K H t [.str z, y] := ⟨z, t, y, e, ht⟩
    simp only [dif_pos h]
    obtain ⟨t', y', e', ht'⟩ := h.choose_spec
    rw [e] at e'; cases e'
    have := I.tuple_inj ht ht'
    injection this with q1 _
    injection q1 with q1
    exact q1.symm
  have hzip : xs.zip ks = xs.map fun x => (x, k x) := by
    clear hnd q hs
    induction hxk with
    | nil => rfl
    | @cons x z xs ks h t ih =>
      obtain ⟨t', y, e, ht⟩ := h
      rw [List.zip_cons_cons, List.map_cons, ih, hk x z t' y e ht]
  have hkk : xs.map k = ks := by
    clear hnd q hs hzip
    induction hxk with
    | nil => rfl
    | @cons x z xs ks h t ih =>
      obtain ⟨t', y, e, ht⟩ := h
      rw [List.map_cons, ih, hk x z t' y e ht]
  have hx : ∀ x ∈ xs, ∃ t y, x = V.ref t ∧ SqT X.K H t [.str (k x), y] := by
    clear hnd q hs hzip hkk
    induction hxk with
    | nil => intro x hx; cases hx
    | @cons x z xs ks h t ih =>
      intro x' hx'
      rcases List.mem_cons.mp hx' with rfl | hx'
      · obtain ⟨t', y, e, ht⟩ := h
        exact ⟨t', y, e, by rw [hk _ z t' y e ht]; exact ht⟩
      · exact ih x' hx'
  have hu : ∀ x ∈ xs, ∀ y ∈ xs, k x = k y → x = y := by
    intro x hx y hy e
    obtain ⟨i, hi, rfl⟩ := List.mem_iff_getElem.mp hx
    obtain ⟨j, hj, rfl⟩ := List.mem_iff_getElem.mp hy
    have : i = j := by
      rw [← hkk] at hnd
      exact (List.getElem_inj (h₀ := by simpa using hi) (h₁ := by simpa using hj) hnd).mp (by simpa using e)
    subst this; rfl
  obtain ⟨its, rv, hl, hz⟩ := I.list hs
  obtain ⟨u, rfl, ru⟩ := vals1 r
  obtain rfl : u = Value.ref a := ru
  obtain ⟨e1, e2⟩ := refs_back rv fun x m => by
    obtain ⟨t, _, e, _⟩ := hx x m
    exact ⟨t, e⟩
  have hm : ∀ t, Value.ref t ∈ its → V.ref t ∈ xs := fun t hv => by rw [e1]; exact List.mem_map.mpr ⟨_, hv, rfl⟩
  refine SrtO.sorted_ord (ltT_swo fun u => k (backV u)) hl.isList (by rw [← rv.length]; exact hz) (fun h2 h₁ a' ha kk => ?_) fun out h1 h2 => ?_
  · refine ps_sortable (s := { s with heap := h₁ }) (k := fun u => k (backV u)) (by omega) (fun v hv => ?_) (fun v hv v' hv' ek => ?_) fun o e => ?_
    · obtain ⟨t, rfl⟩ := e2 v hv
      obtain ⟨t', y, e, ht⟩ := hx _ (hm t hv)
      cases e
      obtain ⟨its2, r2, ⟨o, ho, hc, n, hd⟩, _⟩ := I.tuple ht
      obtain ⟨u1, u2, rfl, ⟨t1, rfl⟩, rj⟩ := vals2 r2
      exact ⟨t, o, t1, u2, n, rfl, (kk _ _ ho).2, hc, hd⟩
    · obtain ⟨t, rfl⟩ := e2 v hv
      obtain ⟨t', rfl⟩ := e2 v' hv'
      have := hu _ (hm t hv) _ (hm t' hv') ek
      cases this; rfl
    · have e' : some o = some (seqObj "list" its.toArray 0) := e.symm.trans ha
      cases e'
      intro c
      exact absurd (Value.type.inj c) (by decide)
  · have h3 : ∀ u ∈ out, ∃ a, u = Value.ref a := fun u hu => e2 u (h2.perm.mem_iff.mp hu)
    obtain ⟨n, hn⟩ := PyProof.Rows.sortedAll_at s.heap its out.toArray
    have hb : (out.map backV).Perm xs := by rw [e1]; exact h2.perm.map backV
    refine ⟨.ref (s.heap.objs.size + 1), upd H (s.heap.objs.size + 1) (.lst (out.map backV)), I.laid (t' := s.toks) (fun b o e => PyProof.Rows.sortedAll_old e) (Nat.le_succ _) ⟨?_, out, n, vals_back h3, hn⟩, rfl, ?_⟩
    · rw [hb.length_eq]; exact hz
    · have := q ((out.map backV).map fun x => (x, k x)) (s.heap.objs.size + 1) (by rw [hzip]; exact hb.map _) (List.pairwise_map.mpr (List.pairwise_map.mpr h1)) (I.hok.fresh (Nat.le_succ _))
      rw [List.map_map] at this
      have e9 : (out.map backV).map ((fun x : V × Str => x.1) ∘ fun x => (x, k x)) = out.map backV := by
        rw [show ((fun x : V × Str => x.1) ∘ fun x => (x, k x)) = id from rfl, List.map_id]
      rw [e9] at this
      exact this
end L2
namespace DL
open PySem PySem.Spec PyProof.Rows L2
theorem perm_map_inv {α β : Type} (f : α → β) : ∀ {l' m : List β}, l'.Perm m → ∀ {T : List α}, m = T.map f → ∃ T' : List α, T'.Perm T ∧ l' = T'.map f := by
  intro l' m h
  induction h with
  | nil => intro T e; exact ⟨[], by cases T with | nil => exact .nil | cons _ _ => simp at e, rfl⟩
  | cons x _ ih =>
    intro T e
    cases T with
    | nil => simp at e
    | cons t T =>
      simp only [List.map_cons, List.cons.injEq] at e
      obtain ⟨rfl, e⟩ := e
      obtain ⟨T', h1, rfl⟩ := ih e
      exact ⟨t :: T', h1.cons t, rfl⟩
  | swap x y l =>
    intro T e
    cases T with
    | nil => simp at e
    | cons t T =>
      cases T with
      | nil => simp at e
      | cons t2 T =>
        simp only [List.map_cons, List.cons.injEq] at e
        obtain ⟨rfl, rfl, rfl⟩ := e
        exact ⟨t2 :: t :: T, .swap _ _ _, rfl⟩
  | trans _ _ ih1 ih2 =>
    intro T e
    obtain ⟨T1, h1, e1⟩ := ih2 e
    obtain ⟨T2, h2, e2⟩ := ih1 e1
    exact ⟨T2, h2.trans h1, e2⟩
def pairD (p : Str × D) : D := .tup [.str p.1, p.2]
section
variable {G : Gm} {E : XK} {X : Cx}
/-- sorted(pairs), the texts unlike -/
@[simp] def dSortP : D1 := fun ds st R => match ds with
  | [d] => onL st d fun xs => ∃ ps : List (Str × D), xs = ps.map pairD ∧ (ps.map (·.1)).Nodup ∧ ∀ qs : List (Str × D), qs.Perm ps → qs.Pairwise (fun p q => ltT q.1 p.1 = false) → R (.lst (qs.map pairD)) st
  | _ => False
theorem cd_sortP (hK : G.K = X.K) : CaD G (rSortPS X.K) dSortP := by
  intro E W H st ds vs R xq Q rel rs w o
  rw [← hK]
  unfold dSortP at w
  split at w
  · obtain ⟨v, rfl, rv⟩ := rpl1 rs
    obtain ⟨a, vs, xs, rfl, h1, h2, ps, rfl, hn, w⟩ := onL_of rel rv w
    have hp : Paired (fun x z => ∃ t y, x = V.ref t ∧ SqT G.K H t [.str z, y]) vs (ps.map (·.1)) := by
      clear hn w h1
      induction ps generalizing vs with
      | nil => simp only [List.map_nil, RpL] at h2; subst h2; exact .nil
      | cons p ps ih =>
        simp only [List.map_cons, RpL] at h2
        obtain ⟨v, r, rfl, q1, q2⟩ := h2
        unfold pairD at q1
        obtain ⟨t, us, rfl, q3, q4⟩ := tup_sq q1
        obtain ⟨x, y, rfl, q5, q6⟩ := rpl2 q4
        obtain rfl : x = V.str p.1 := q5
        exact .cons ⟨t, y, rfl, q3⟩ (ih _ q2)
    have hl := h2.length
    rw [List.length_map] at hl
    have hz : vs.zip (ps.map (·.1)) = (vs.zip ps).map fun t => (t.1, t.2.1) := by
      rw [List.zip_map_right]; rfl
    refine ⟨a, vs, _, rfl, h1, hp, hn, fun l p hl' hs hp' => ?_⟩
    obtain ⟨T', t1, rfl⟩ := perm_map_inv _ hl' hz
    have hq : ((T'.map (·.2)) : List (Str × D)).Perm ps := by
      have := t1.map (fun t : V × (Str × D) => t.2)
      rw [List.map_snd_zip (by omega)] at this
      exact this
    rw [List.map_map]
    have e0 : T'.map ((fun x : V × Str => x.1) ∘ fun t => (t.1, t.2.1)) = T'.map (·.1) := rfl
    rw [e0]
    have hrp : ∀ t ∈ vs.zip ps, Rp G.K W H (pairD t.2) t.1 := by
      clear hn w h1 hp hl' hs hq hz t1 e0 hl
      induction ps generalizing vs with
      | nil => intro t ht; simp at ht
      | cons p ps ih =>
        simp only [List.map_cons, RpL] at h2
        obtain ⟨v, r, rfl, q1, q2⟩ := h2
        intro t ht
        rw [List.zip_cons_cons] at ht
        rcases List.mem_cons.mp ht with rfl | ht
        · exact q1
        · exact ih r q2 t ht
    have hrl : RpL G.K W H ((T'.map (·.2)).map pairD) (T'.map (·.1)) := by
      have : ∀ t ∈ T', Rp G.K W H (pairD t.2) t.1 := fun t ht => hrp t (t1.mem_iff.mp ht)
      clear t1 hl' hs hq e0
      induction T' with
      | nil => exact RpL.nil
      | cons t T' ih => exact RpL.cons (this t (by simp)) (ih fun t' h => this t' (by simp [h]))
    refine o.rt W _ (.lst _) _ st (Le.fresh hp') (rel.fresh hp') (newL rel hp' hrl) (w _ hq ?_)
    exact List.pairwise_map.mpr (List.pairwise_map.mp hs)
  · cases w
/-! ## methods with defaults and keywords -/
/-- n values by place (the instance first), keywords ks; pre: defaults ahead of the keywords', post: behind them -/
structure CalG (P : Program) (w : World) (G : Gm) (mg : Str → Option Value) (base : Heap) (k : Nat) (C : Addr) (N : List Str) (m : Str) (n : Nat) (ks : List Str) (pre post : List D) (dsp : DSp) : Prop where
  T : ClsD G C N
  no : m ∉ N
  ex : ∃ f fd ps g gV, FnD P w G mg base CX0 k f fd ps dsp ∧ Meth G.K C m f ∧ KBn G.K fd ps n ks g gV ∧ ∀ W H ds vs zs us, RpL G.K W H ds vs → RpL G.K W H zs us → RpL G.K W H (ds ++ pre ++ zs ++ post) (gV vs us)
@[simp] def mMethG (C : Addr) (n j : Nat) (pre post : List D) (dsp : DSp) (we : ME) (wa wk : MA) : ME := fun ρ st R xq => we ρ st (fun x st1 => (onO st1 x C fun _ _ => True) ∧ wa ρ st1 (fun ds st2 => wk ρ st2 (fun zs st3 => (x :: ds).length = n ∧ zs.length = j ∧ dsp (x :: ds ++ pre ++ zs ++ post) st3 R xq) xq) xq) xq
theorem pd_methG {k n j : Nat} {ks : List Str} {pre post : List D} {C : Addr} {N : List Str} {m : Str} {dsp : DSp} {o e : Expr} {es : List Expr} {kws : List Keyword} {we : ME} {wa wk : MA} {pos apos : Pos} {pl : Sem Bool} (c : CalG X.prog X.w G X.mg X.base k C N m n ks pre post dsp) (hr : Room k X.A) (ho : PDE G E X o we) (ha : PDA G E X (e :: es) wa) (hkw : PDK G E X kws wk) (hj : ks.length = j := by rfl)
    (hall : (backToKw pos (keywordEach kws X.env)).all (·.1.isSome) = true := by rfl) (hks : (backToKw pos (keywordEach kws X.env)).filterMap (·.1) = ks := by rfl)
    (hst : starEach (e :: es) X.env = (false, eval e X.env) :: starEach es X.env := by rfl) (hpl : ((backTo pos (starEach (e :: es) X.env)).any (·.1) || (backToKw pos (keywordEach kws X.env)).any (·.1.isNone)) = false := by rfl)
    (ht : eval (.Call (.Attribute o m apos) (e :: es) kws pos) X.env = (do
      let ov ← eval o X.env
      standAt apos.atName
      let (f, first) ← holding [ov] (getMethod ov m pl)
      callWith pos f first (backTo pos (starEach (e :: es) X.env)) (backToKw pos (keywordEach kws X.env))) := by rfl) (hK : G.K = X.K := by rfl) :
    PDE G E X (.Call (.Attribute o m apos) (e :: es) kws pos) (mMethG C n j pre post dsp we wa wk) := by
  subst hj
  obtain ⟨f, fd, ps, g, gV, F, hm, hb, hg⟩ := c.ex
  unfold FnD at F
  have hc := c.T.cl
  rw [hK] at F hm hb hc
  exact PE.weak (pe_methN (pl := pl) ho hc hm F hr hb passA ha hkw hall hks hst hpl ht) fun σ H Q ⟨W, ρ, st, R, xq, rel, re, w, o⟩ =>
    ⟨W, ρ, st, _, xq, rel, re, w, ⟨fun W1 H1 dx x st1 l1 rel1 rx w1 => by
      obtain ⟨i, a, dd, fs, vs, rfl, h1, h2, h3, _⟩ := onO_of rel1 rx w1.1
      rw [c.T.Γ] at h3
      refine ⟨a, dd, vs, rfl, h2, h3.no c.no, W1, ρ, st1, _, xq, rel1, re.le l1, w1.2, ⟨fun W2 H2 ds us st2 l2 rel2 rus w2 => ?_, (o.le l1).xq⟩⟩
      refine ⟨W2, ρ, st2, _, xq, rel2, re.le (l1.trans l2), w2, ⟨fun W3 H3 zs ws st3 l3 rel3 rz w3 => ?_, (o.le (l1.trans l2)).xq⟩⟩
      obtain ⟨n1, n2, w3⟩ := w3
      have r2 := RpL.cons (rx.le (l2.trans l3)) (rus.le l3)
      exact ⟨by rw [r2.length]; exact n1, by rw [rz.length]; exact n2, W3, _, st3, R, xq, rel3, hg _ _ _ _ _ _ r2 rz, w3, o.le (l1.trans (l2.trans l3))⟩, o.xq⟩⟩
/-! ## a dict walked within a comprehension -/
def keyD : Key → D | .inl i => .int i | .inr x => .str x
/-- the dict at a handle is locked meanwhile -/
@[simp] def mLockE (w : ME) : ME := fun ρ st R _ => ∃ j kvs, st[j]? = some (.dK kvs) ∧ ∀ o us, w ρ (st.set j (.fK o us kvs)) (fun d st' => st'[j]? = some (.fK o us kvs) ∧ R d (st'.set j (.dK kvs))) noX
theorem pd_lockE {e : Expr} {w : ME} (h : PDE G E X e w) : PDE G E X e (mLockE w) :=
  PE.weak (pe_lock h) fun σ H Q ⟨W, ρ, st, R, xq, rel, re, w1, o⟩ => by
    obtain ⟨j, kvs, e1, w1⟩ := w1
    obtain ⟨a, h1, vs, h2, h3⟩ := rel.cell _ _ e1
    refine ⟨a, .dK vs, h2, trivial, fun od => ?_⟩
    have l1 : Le W H W (upd H a (.frz od (.dK vs))) := Le.write (rel.mem h1)
    have rel1 : Rel G W (upd H a (.frz od (.dK vs))) (st.set j (.fK od vs kvs)) := rel.write h1 (c := .fK od vs kvs) ⟨upd_same, h3.le l1⟩
    refine ⟨W, ρ, _, _, noX, rel1, re.le l1, w1 od vs, ⟨fun W2 H2 d v st2 l2 rel2 rv w2 => ?_, fun _ _ _ _ _ _ z => z.elim⟩⟩
    obtain ⟨e2, w2⟩ := w2
    obtain ⟨b, h4, h5, h6⟩ := rel2.cell _ _ e2
    have hb : b = a := by
      obtain ⟨t, et⟩ := l2.m
      have : W2.m[j]? = some a := by rw [et, List.getElem?_append_left (List.getElem?_eq_some_iff.mp h1).1]; exact h1
      rw [this] at h4; cases h4; rfl
    subst hb
    refine ⟨h5, ?_⟩
    have l3 : Le W2 H2 W2 (upd H2 b (.dK vs)) := Le.write (rel2.mem h4)
    exact o.rt W2 _ d v _ (l1.trans (l2.trans l3)) (rel2.write h4 (c := .dK kvs) ⟨vs, upd_same, h6.le l3⟩) (rv.le l3) w2
/-- its keys are walked -/
@[simp] def miKF (we : ME) : MI := fun ρ st R xq => we ρ st (fun d st1 => ∃ j o us kvs, d = .hdl j ∧ st1[j]? = some (.fK o us kvs) ∧ R (kvs.map fun p => keyD p.1) (fun st' => st'[j]? = some (.fK o us kvs)) st1) xq
theorem RpK.getk {K : PySem.W.Frag} {W : Wd} {H : Hp} : ∀ {kvs : List (Key × D)} {vs : List (Key × V)} (i : Nat), RpK K W H kvs vs → vs.map (·.1) = kvs.map (·.1)
  | [], vs, _, h => by simp only [RpK] at h; subst h; rfl
  | (k, d) :: kvs, vs, i, h => by
    simp only [RpK] at h
    obtain ⟨v, r, rfl, _, h2⟩ := h
    simp [RpK.getk i h2]
theorem mi_kF {tg e : Expr} {we : ME} (he : PDE G E X e we) : PDI G E X tg e (miKF we) :=
  PI.weak (pi_keys he) fun σ H Q ⟨W, ρ, st, R, xq, rel, re, w, o⟩ =>
    ⟨W, ρ, st, _, xq, rel, re, w, ⟨fun W1 H1 d v st1 l1 rel1 rv w1 => by
      obtain ⟨j, od, us, kvs, rfl, e1, w1⟩ := w1
      simp only [Rp] at rv
      obtain ⟨a, h1, rfl⟩ := rv
      obtain ⟨b, h2, h3, h4⟩ := rel1.cell _ _ e1
      rw [h1] at h2; cases h2
      refine ⟨a, od, rfl, .inl ⟨us, h3, o.rt W1 H1 _ _ _ st1 l1 rel1 ?_ w1⟩⟩
      intro i W2 H2 st2 l2 rel2 e2
      obtain ⟨b, h5, h6, h7⟩ := rel2.cell _ _ e2
      obtain ⟨t, et⟩ := l2.m
      have : W2.m[j]? = some a := by rw [et, List.getElem?_append_left (List.getElem?_eq_some_iff.mp h1).1]; exact h1
      rw [this] at h5; cases h5
      have hl := h7.length
      refine ⟨fun hi => ⟨h6, by rw [hl]; simpa using hi⟩, fun d hd => ?_⟩
      rw [List.getElem?_map, Option.map_eq_some_iff] at hd
      obtain ⟨p, hp, rfl⟩ := hd
      have hi : i < kvs.length := (List.getElem?_eq_some_iff.mp hp).1
      refine ⟨⟨h6, by omega⟩, fun x H3 y => ?_⟩
      obtain ⟨rfl, k, v, hv, rfl⟩ := y
      refine ⟨W2, Le.refl, rel2, ?_⟩
      have hk := congrArg (fun l => l[i]?) (RpK.getk 0 h7)
      simp only [List.getElem?_map, hv, hp, Option.map_some, Option.some.injEq] at hk
      rw [hk]
      cases p.1 <;> rfl, o.xq⟩⟩
/-! ## zip of lists, also at handles -/
@[simp] def miZipA (w : MA) : MI := fun ρ st R xq => w ρ st (fun ds st1 => match ds with | [a, b] => ∃ xs ys, dr st1 a = .lst xs ∧ dr st1 b = .lst ys ∧ R (zipD xs ys) (fun st' => dr st' a = .lst xs ∧ dr st' b = .lst ys) st1 | _ => False) xq
theorem mi_zipA {e e2 : Expr} {w : MA} {p pos tpos : Pos} {elts : List Expr} {kk : Nat} (hm : X.mg "zip" = none) (ha : PDA G E X [e, e2] w) (hg : Gl X "zip" := by rfl) (hs : starEach [e, e2] X.env = (false, eval e X.env) :: starEach [e2] X.env := by rfl) (hpl : (backTo pos (starEach [e2] X.env)).any (·.1) = false := by rfl) (hK : G.K = X.K := by rfl) :
    PDI G E X (.Tuple elts kk tpos) (.Call (.Name "zip" p) [e, e2] [] pos) (miZipA w) :=
  PI.weak (pi_zip hg hm ha hs hpl) fun σ H Q ⟨W, ρ, st, R, xq, rel, re, w, o⟩ =>
    ⟨W, ρ, st, _, xq, rel, re, w, ⟨fun W1 H1 ds vs st1 l1 rel1 rv w1 => by
      rw [← hK]
      split at w1
      · rename_i a b
        obtain ⟨xs, ys, e1, e2, w1⟩ := w1
        obtain ⟨v, u, rfl, r1, r2⟩ := rpl2 rv
        obtain ⟨p, vs, rfl, h1, h2⟩ := dr_lst rel1 r1 e1
        obtain ⟨q, us, rfl, h3, h4⟩ := dr_lst rel1 r2 e2
        refine ⟨p, q, vs, us, rfl, SqL.of h1, SqL.of h3, o.rt W1 H1 _ _ _ st1 l1 rel1 ?_ w1⟩
        intro i W2 H2 st2 l2 rel2 hi
        obtain ⟨p', vs', e3, g1, g2⟩ := dr_lst rel2 (r1.leR l2) hi.1
        obtain ⟨q', us', e4, g3, g4⟩ := dr_lst rel2 (r2.leR l2) hi.2
        cases e3
        cases e4
        refine ⟨fun hl => ⟨vs', us', SqL.of g1, SqL.of g3, ?_⟩, fun d hd => ?_⟩
        · rw [g2.length, g4.length]
          have : (zipD xs ys).length = min xs.length ys.length := by simp [zipD]
          omega
        · obtain ⟨x, y, k1, k2, rfl⟩ := zipD_get hd
          obtain ⟨v, k3, k4⟩ := g2.get k1
          obtain ⟨u, k5, k6⟩ := g4.get k2
          refine ⟨⟨vs', us', v, u, SqL.of g1, SqL.of g3, k3, k5⟩, fun z H'' g => ?_⟩
          obtain ⟨T, v', u', rfl, hT, rfl, f1, f2⟩ := g
          have f3 := f1 vs' (SqL.of g1)
          rw [k3] at f3; cases f3
          have f4 := f2 us' (SqL.of g3)
          rw [k5] at f4; cases f4
          exact ⟨W2, Le.fresh hT, rel2.fresh hT, newT rel2 hT (RpL.cons k4 (.one k6))⟩
      · exact w1.elim, o.xq⟩⟩
end
end DL

set_option Elab.async false
set_option linter.all false
set_option maxRecDepth 100000
set_option autoImplicit false
namespace DL
open PySem PySem.Spec PyProof.Rows L2
/-- a hidden object is a handle from now on -/
theorem Rel.toHc {G : Gm} {a : Addr} {m ex : List Addr} {H : Hp} {st : Sto} {c : Cell} (r : Rel G ⟨m, a :: ex⟩ H st) (ha : a ∉ ex) (hc : CellRp G ⟨m, a :: ex⟩ H a c) : Rel G ⟨m ++ [a], ex⟩ H (st ++ [c]) ∧ Rp G.K ⟨m ++ [a], ex⟩ H (.hdl st.length) (.ref a) := by
  have nm : a ∉ m := fun z => r.out a z (List.mem_cons_self)
  have l : LeR ⟨m, a :: ex⟩ H ⟨m ++ [a], ex⟩ H := ⟨⟨[a], rfl⟩, fun b u h1 h2 e => by
    simp only [List.mem_cons, not_or] at h2
    exact ⟨by simp only [List.mem_append, List.mem_singleton, not_or]; exact ⟨h1, h2.1⟩, h2.2, e⟩⟩
  have hlen : m.length = st.length := r.len
  refine ⟨⟨?_, by simp [hlen], fun b hb => ?_, fun b hb => r.exs b (List.mem_cons_of_mem _ hb), fun j c' q => ?_⟩, ?_⟩
  · show (m ++ [a]).Nodup
    rw [List.nodup_append]
    refine ⟨r.nd, by simp, ?_⟩
    intro x h1 y h2 z
    have e2 : y = a := by simpa using h2
    exact nm (by rw [← e2, ← z]; exact h1)
  · rcases List.mem_append.mp hb with z | z
    · exact fun q => r.out b z (List.mem_cons_of_mem _ q)
    · have : b = a := by simpa using z
      subst this; exact ha
  · by_cases hj : j < st.length
    · rw [List.getElem?_append_left hj] at q
      obtain ⟨b, q1, q2⟩ := r.cell j c' q
      refine ⟨b, ?_, q2.leR l rfl⟩
      show (m ++ [a])[j]? = _
      rw [List.getElem?_append_left (by rw [hlen]; exact hj)]; exact q1
    · have hj' : st.length ≤ j := Nat.le_of_not_lt hj
      rw [List.getElem?_append_right hj'] at q
      have e0 : j - st.length = 0 := by
        by_cases z : j - st.length = 0
        · exact z
        · obtain ⟨n, hn⟩ := Nat.exists_eq_succ_of_ne_zero z
          rw [hn] at q; simp at q
      rw [e0] at q
      simp at q
      subst q
      refine ⟨a, ?_, hc.leR l rfl⟩
      show (m ++ [a])[j]? = _
      rw [List.getElem?_append_right (by rw [hlen]; exact hj'), hlen, e0]
      rfl
  · simp only [Rp]
    refine ⟨a, ?_, rfl⟩
    show (m ++ [a])[st.length]? = _
    rw [← hlen]; simp
/-! ## written dicts -/
@[simp] def mPrs : List (ME × ME) → DEnv → Sto → (List (D × D) → Sto → Prop) → Prop
  | [], _, st, k => k [] st
  | (a, b) :: r, ρ, st, k => a ρ st (fun x st1 => b ρ st1 (fun y st2 => mPrs r ρ st2 (fun l st3 => k ((x, y) :: l) st3)) noX) noX
@[simp] def toKs : List (D × D) → Option (List (Key × D))
  | [] => some []
  | (k, v) :: r => match toK k, toKs r with
    | some key, some kvs => some ((key, v) :: kvs)
    | _, _ => none
@[simp] def mDisp (prs : List (ME × ME)) : ME := fun ρ st R _ => mPrs prs ρ st (fun l st1 => ∃ kvs, toKs l = some kvs ∧ kvs.length ≤ 15 ∧ R (.hdl st1.length) (st1 ++ [.dK (mergeD [] kvs)]))
def RpP (K : PySem.W.Frag) (W : Wd) (H : Hp) : List (D × D) → List (V × V) → Prop
  | [], vs => vs = []
  | (k, d) :: r, vs => ∃ x y t, vs = (x, y) :: t ∧ Rp K W H k x ∧ Rp K W H d y ∧ RpP K W H r t
theorem RpP.leR {K : PySem.W.Frag} {W W' : Wd} {H H' : Hp} (l : LeR W H W' H') : ∀ {ds : List (D × D)} {vs : List (V × V)}, RpP K W H ds vs → RpP K W' H' ds vs
  | [], _, h => h
  | (k, d) :: r, vs, h => by
    obtain ⟨x, y, t, e, h1, h2, h3⟩ := h
    exact ⟨x, y, t, e, h1.leR l, h2.leR l, h3.leR l⟩
theorem RpP.keys {K : PySem.W.Frag} {W : Wd} {H : Hp} : ∀ {ds : List (D × D)} {vs : List (V × V)} {kvs : List (Key × D)}, RpP K W H ds vs → toKs ds = some kvs → ∃ us, vs = us.map (fun kv => (kV kv.1, kv.2)) ∧ RpK K W H kvs us
  | [], vs, kvs, h, e => by
    simp only [RpP] at h
    simp only [toKs] at e
    cases e
    subst h
    exact ⟨[], rfl, by simp only [RpK]⟩
  | (k, d) :: r, vs, kvs, h, e => by
    obtain ⟨x, y, t, rfl, h1, h2, h3⟩ := h
    simp only [toKs] at e
    split at e
    · rename_i key kvs' e1 e2
      cases e
      obtain ⟨us, rfl, h4⟩ := RpP.keys h3 e2
      obtain rfl := toK_of h1 e1
      exact ⟨(key, y) :: us, rfl, y, us, rfl, h2, h4⟩
    · cases e
section
variable {G : Gm} {E : XK} {X : Cx}
inductive PDPs (G : Gm) (X : Cx) (pos : Pos) : List (Option Expr) → List Expr → List (ME × ME) → Prop
  | nil : PDPs G X pos [] [] []
  | cons {k v : Expr} {ks : List (Option Expr)} {vs : List Expr} {wk wv : ME} {r : List (ME × ME)} : (PDE G E0 X k wk) → (PDE G E0 X v wv) → PDPs G X pos ks vs r → PDPs G X pos (some k :: ks) (v :: vs) ((wk, wv) :: r)
theorem PDPs.pps {pos : Pos} {ks : List (Option Expr)} {vs : List Expr} {prs : List (ME × ME)} (h : PDPs G X pos ks vs prs) : PPs X pos ks vs (prs.map fun p => (tD G E0 p.1, tD G E0 p.2)) := by
  induction h with
  | nil => exact pps_nil
  | cons h1 h2 _ ih => exact pps_cons h1 h2 ih
theorem prs_walk {σ : L2.St} {ρ : DEnv} : ∀ (prs : List (ME × ME)) {W : Wd} {H : Hp} {st : Sto} {k : List (D × D) → Sto → Prop} {Q : List (V × V) → Hp → Prop}, Rel G W H st → RpE G.K W H ρ σ → mPrs prs ρ st k →
    (∀ W' H' ds vs st', Le W H W' H' → Rel G W' H' st' → RpP G.K W' H' ds vs → k ds st' → Q vs H') → tPairs (prs.map fun p => (tD G E0 p.1, tD G E0 p.2)) σ H Q
  | [], W, H, st, k, Q, rel, re, w, o => o W H [] [] st Le.refl rel (by simp only [RpP]) w
  | (a, b) :: r, W, H, st, k, Q, rel, re, w, o =>
    ⟨W, ρ, st, _, noX, rel, re, w, ⟨fun W1 H1 dx x st1 l1 rel1 rx w1 => ⟨W1, ρ, st1, _, noX, rel1, re.le l1, w1, ⟨fun W2 H2 dy y st2 l2 rel2 ry w2 =>
      prs_walk r rel2 (re.le (l1.trans l2)) w2 fun W3 H3 ds vs st3 l3 rel3 rv w3 => o W3 H3 ((dx, dy) :: ds) _ st3 (l1.trans (l2.trans l3)) rel3 ⟨x, y, vs, rfl, rx.le (l2.trans l3), ry.le l3, rv⟩ w3, fun _ _ _ _ _ _ z => z.elim⟩⟩, fun _ _ _ _ _ _ z => z.elim⟩⟩
theorem pd_disp {pos : Pos} {keys : List (Option Expr)} {values : List Expr} {prs : List (ME × ME)} (h : PDPs G X pos keys values prs) (hall : keys.all (·.isSome) = true := by rfl) (hl : keys.length = values.length := by rfl) (h0 : keys ≠ [] := by simp) (h15 : keys.length ≤ 15 := by decide) : PDE G E X (.Dict keys values pos) (mDisp prs) :=
  PE.weak (pe_disp h.pps hall hl h0 h15) fun σ H Q ⟨W, ρ, st, R, xq, rel, re, w, o⟩ p hp => by
    have nex := rel.nex hp
    have nin := rel.nin hp
    have l0 : LeR W H ⟨W.m, p :: W.ex⟩ (upd H p (.dK [])) := ⟨⟨[], by simp⟩, fun b u h1 h2 e => ⟨h1, by simp [h2, ne_of_none e hp], by rw [upd_ne (ne_of_none e hp)]; exact e⟩⟩
    refine prs_walk prs (rel.hide (o := .dK []) hp) (re.leR l0) w fun W2 H2 ds vs st2 l2 rel2 rv w2 => ?_
    obtain ⟨m2, ex2⟩ := W2
    obtain rfl : ex2 = p :: W.ex := l2.ex
    obtain ⟨kvs, e1, hl15, w2⟩ := w2
    refine ⟨(l2.keep p _ nin upd_same).2, ?_⟩
    obtain ⟨us, rfl, rk⟩ := rv.keys e1
    have rm := rk.merge (kvs := []) (vs := []) (by simp only [RpK])
    obtain ⟨rel3, l3⟩ := rel2.hidden (a := p) (o := .dK (mergeK [] us)) List.mem_cons_self
    have rm3 : RpK G.K ⟨m2, p :: W.ex⟩ (upd H2 p (.dK (mergeK [] us))) (mergeD [] kvs) (mergeK [] us) := rm.leR l3
    obtain ⟨rel4, rh⟩ := rel3.toHc (c := .dK (mergeD [] kvs)) nex ⟨_, upd_same, rm3⟩
    refine ⟨us, rfl, by rw [rk.length]; exact hl15, o.rt _ _ (.hdl st2.length) (.ref p) _ ?_ rel4 rh w2⟩
    obtain ⟨t, et⟩ := l2.m
    refine ⟨rfl, ⟨t ++ [p], by show m2 ++ [p] = _; rw [show m2 = W.m ++ t from et, List.append_assoc]⟩, fun a u h1 e => ?_⟩
    have ne := ne_of_none e hp
    obtain ⟨q1, q2⟩ := l2.keep a u h1 (by rw [upd_ne ne]; exact e)
    exact ⟨by simp only [List.mem_append, List.mem_singleton, not_or]; exact ⟨q1, ne⟩, by rw [upd_ne ne]; exact q2⟩
end
end DL

set_option Elab.async false
set_option linter.all false
set_option maxRecDepth 100000
set_option autoImplicit false
namespace DL
open PySem PySem.Spec PyProof.Rows L2
theorem hu20 {k : Nat} {A : Around} (hr : Room k A) : A.units + 20 < cLine := by have := hr.units; omega
section
variable {ρ : DEnv} {st : Sto} {R : DQ} {xq : XQ} {w wa wb wc wo we wi : ME} {t : MT} {r wk : MA}
theorem mChn_i {d d' : D2} (h : wa ρ st (fun x st1 => wb ρ st1 (fun y st2 => d x y st2 (fun z st3 => onB z fun k => if k = true then wc ρ st3 (fun u st4 => d' y u st4 R) xq else R (.bl false) st3)) xq) xq) : mChn d d' wa wb wc ρ st R xq := h
theorem dLE_i {i j : Int} (h : R (.bl (decide (i ≤ j))) st) : dLE (.int i) (.int j) st R := h
theorem dLE_s {i j : Str} (h : R (.bl (strLe i j)) st) : dLE (.str i) (.str j) st R := h
theorem mSlA_i {wl wh : MO} (h : w ρ st (fun x st1 => wl ρ st1 (fun lo st2 => wh ρ st2 (fun hi st3 => dSlA x lo hi st3 R) xq) xq) xq) : mSlA w wl wh ρ st R xq := h
theorem mJoin_i (h : wo ρ st (fun x st1 => onS x fun a => we ρ st1 (fun y st2 => onL st2 y fun xs => ∃ ys, allS xs = some ys ∧ (ys.map (·.length)).sum + ys.length * a.length ≤ 16777216 ∧ R (.str (Txt.join a ys)) st2) xq) xq) : mJoin wo we ρ st R xq := h
theorem mMethG_i {C : Addr} {n j : Nat} {pre post : List D} {dsp : DSp} (h : we ρ st (fun x st1 => (onO st1 x C fun _ _ => True) ∧ r ρ st1 (fun ds st2 => wk ρ st2 (fun zs st3 => (x :: ds).length = n ∧ zs.length = j ∧ dsp (x :: ds ++ pre ++ zs ++ post) st3 R xq) xq) xq) xq) : mMethG C n j pre post dsp we r wk ρ st R xq := h
theorem mLockE_i {j : Nat} {kvs : List (Key × D)} (e : st[j]? = some (.dK kvs)) (h : ∀ o us, w ρ (st.set j (.fK o us kvs)) (fun d st' => st'[j]? = some (.fK o us kvs) ∧ R d (st'.set j (.dK kvs))) noX) : mLockE w ρ st R xq := ⟨j, kvs, e, h⟩
theorem miKF_i {k : List D → (Sto → Prop) → Sto → Prop} (h : w ρ st (fun d st1 => ∃ j o us kvs, d = .hdl j ∧ st1[j]? = some (.fK o us kvs) ∧ k (kvs.map fun p => keyD p.1) (fun st' => st'[j]? = some (.fK o us kvs)) st1) xq) : miKF w ρ st k xq := h
theorem miZipA_i {k : List D → (Sto → Prop) → Sto → Prop} (h : r ρ st (fun ds st1 => match ds with | [a, b] => ∃ xs ys, dr st1 a = .lst xs ∧ dr st1 b = .lst ys ∧ k (zipD xs ys) (fun st' => dr st' a = .lst xs ∧ dr st' b = .lst ys) st1 | _ => False) xq) : miZipA r ρ st k xq := h
theorem mDisp_i {prs : List (ME × ME)} (h : mPrs prs ρ st (fun l st1 => ∃ kvs, toKs l = some kvs ∧ kvs.length ≤ 15 ∧ R (.hdl st1.length) (st1 ++ [.dK (mergeD [] kvs)]))) : mDisp prs ρ st R xq := h
theorem mPrs_n {k : List (D × D) → Sto → Prop} (h : k [] st) : mPrs [] ρ st k := h
theorem mPrs_c {a b : ME} {l : List (ME × ME)} {k : List (D × D) → Sto → Prop} (h : a ρ st (fun x st1 => b ρ st1 (fun y st2 => mPrs l ρ st2 (fun l st3 => k ((x, y) :: l) st3)) noX) noX) : mPrs ((a, b) :: l) ρ st k := h
theorem mCallT_i {i : Nat} {tb : List (Addr × DSp)} {f : Addr} {dsp : DSp} (e : ρ[i]? = some (some (.raw (.ref f)))) (hm : (f, dsp) ∈ tb) (h : r ρ st (fun ds st1 => dsp ds st1 R noX) noX) : mCallT i tb r ρ st R xq := by
  unfold mCallT; rw [e]; exact ⟨dsp, hm, h⟩
theorem dAddA_i {i j : Int} (h : R (.int (i + j)) st) : dAddA (.int i) (.int j) st R := h
theorem dAddA_s {i j : Str} (hl : i.length + j.length ≤ sizeLine) (h : R (.str (i ++ j)) st) : dAddA (.str i) (.str j) st R := ⟨hl, h⟩
theorem dAddA_t {xs ys : List D} (hl : xs.length + ys.length ≤ sizeLine) (h : R (.tup (xs ++ ys)) st) : dAddA (.tup xs) (.tup ys) st R := ⟨hl, h⟩
theorem dAddA_l {x y : D} {xs ys : List D} (e1 : dr st x = .lst xs) (e2 : dr st y = .lst ys) (hl : xs.length + ys.length ≤ sizeLine) (h : R (.lst (xs ++ ys)) st) : dAddA x y st R := by
  unfold dAddA; rw [e1, e2]; exact ⟨hl, h⟩
theorem dMulA_i {i j : Int} (c : CMulX i j) (h : R (.int (i * j)) st) : dMulA (.int i) (.int j) st R := ⟨c, h⟩
theorem dMulA_t {xs : List D} {k : Int} (h0 : xs ≠ []) (h2 : 2 ≤ k) (h3 : k ≤ 1000) (h4 : xs.length ≤ 1000) (h : R (.tup (List.replicate k.toNat xs).flatten) st) : dMulA (.tup xs) (.int k) st R := ⟨h0, h2, h3, h4, h⟩
theorem dSlA_l {xs : List D} {lo hi : Option Int} (h : R (.lst (cutD xs lo hi)) st) : dSlA (.lst xs) lo hi st R := h
theorem dSlA_r {xs : List D} {lo hi : Option Int} (h : R (.lst (cutD xs lo hi)) st) : dSlA (.scr xs) lo hi st R := h
theorem dSlA_t {xs : List D} {lo hi : Option Int} (h : R (.tup (cutD xs lo hi)) st) : dSlA (.tup xs) lo hi st R := h
theorem dSlA_s {z : Str} {lo hi : Option Int} (hl : z.length ≤ sizeLine) (h : R (.str (cutT z lo hi)) st) : dSlA (.str z) lo hi st R := ⟨hl, h⟩
theorem dSlA_h {j : Nat} {xs : List D} {lo hi : Option Int} (e : st[j]? = some (.lst xs)) (h : R (.lst (cutD xs lo hi)) st) : dSlA (.hdl j) lo hi st R := by
  unfold dSlA; rw [dr_hdl e]; exact h
theorem dInKD_i {d : Addr} {tb : List (Str × Addr)} {n : Bool} {z : Str} (h : R (.bl (if n then !(tb.lookup z).isSome else (tb.lookup z).isSome)) st) : dInKD d tb n (.str z) (.raw (.ref d)) st R := ⟨rfl, h⟩
theorem dIxKD_i {d a : Addr} {tb : List (Str × Addr)} {z : Str} (e : tb.lookup z = some a) (h : R (.raw (.ref a)) st) : dIxKD d tb (.raw (.ref d)) (.str z) st R := ⟨rfl, a, e, h⟩
theorem dIsiT_i {cs : List String} {x : D} {t : String} {b : Bool} (e1 : tyD st x = some t) (e2 : kitBs t cs = some b) (h : R (.bl b) st) : dIsiT cs [x, .tup (cs.map fun a => D.raw (.ty a))] st R := ⟨rfl, t, b, e1, e2, h⟩
theorem dExtA_t {j : Nat} {xs ys : List D} (e : st[j]? = some (.lst xs)) (hl : xs.length + ys.length ≤ sizeLine) (h : R .non (st.set j (.lst (xs ++ ys)))) : dExtA (.hdl j) [.tup ys] st R := by
  simp only [dExtA, onH_hdl e]; exact ⟨hl, h⟩
theorem dExtA_l {j : Nat} {xs ys : List D} {y : D} (e : st[j]? = some (.lst xs)) (ey : dr st y = .lst ys) (hl : xs.length + ys.length ≤ sizeLine) (h : R .non (st.set j (.lst (xs ++ ys)))) : dExtA (.hdl j) [y] st R := by
  simp only [dExtA, onH_hdl e, ey]; exact ⟨hl, h⟩
theorem dDictA_l {xs : List D} {kvs : List (Key × D)} (e : pairsD xs = some kvs) (h : R (.hdl st.length) (st ++ [.dK (mergeD [] kvs)])) : dDictA [.lst xs] st R := ⟨kvs, e, h⟩
theorem dDictA_q {d : D} {xs : List D} {kvs : List (Key × D)} (e0 : dr st d = .lst xs) (e : pairsD xs = some kvs) (h : R (.hdl st.length) (st ++ [.dK (mergeD [] kvs)])) : dDictA [d] st R := by
  simp only [dDictA, e0]; exact ⟨kvs, e, h⟩
theorem dDictA_h {j : Nat} {kvs : List (Key × D)} (e : st[j]? = some (.dK kvs)) (h : R (.hdl st.length) (st ++ [.dK kvs])) : dDictA [.hdl j] st R := by
  have : dr st (.hdl j) = .hdl j := by
    show (match st[j]? with | some (Cell.lst xs) => D.lst xs | _ => D.hdl j) = _
    rw [e]
  simp only [dDictA, this, onK_hdl e]; exact h
theorem dSortK_h {j : Nat} {kvs : List (Key × D)} {ks : List Int} (e : st[j]? = some (.dK kvs)) (ek : keysI kvs = some ks) (hl : ks.length < 64) (h : ∀ ys : List Int, ys.Perm ks → ys.Pairwise (· ≤ ·) → R (.lst (ys.map D.int)) st) : dSortK [.hdl j] st R := by
  simp only [dSortK, onK_hdl e]; exact ⟨ks, ek, hl, h⟩
theorem dSortP_l {ps : List (Str × D)} (hn : (ps.map (·.1)).Nodup) (h : ∀ qs : List (Str × D), qs.Perm ps → qs.Pairwise (fun p q => ltT q.1 p.1 = false) → R (.lst (qs.map pairD)) st) : dSortP [.lst (ps.map pairD)] st R := ⟨ps, rfl, hn, h⟩
end
/-! ## a text walked sign by sign -/
def chrsD (x : Str) : List D := x.cps.toList.map fun c => .str ⟨#[c]⟩
section
variable {G : Gm} {E : XK} {X : Cx}
@[simp] def miStr (we : ME) : MI := fun ρ st R xq => we ρ st (fun d st1 => onS d fun x => R (chrsD x) noInv st1) xq
theorem mi_str {tg e : Expr} {we : ME} (he : PDE G E X e we) : PDI G E X tg e (miStr we) :=
  PI.weak (pi_str he) fun σ H Q ⟨W, ρ, st, R, xq, rel, re, w, o⟩ =>
    ⟨W, ρ, st, _, xq, rel, re, w, ⟨fun W1 H1 d v st1 l1 rel1 rv w1 => by
      obtain ⟨x, rfl, w1⟩ := onS_of rv w1
      refine ⟨x, rfl, o.rt W1 H1 _ _ _ st1 l1 rel1 ?_ w1⟩
      intro i W2 H2 st2 l2 rel2 _
      refine ⟨fun hi => by show x.cps.size ≤ i; simpa [chrsD] using hi, fun d hd => ?_⟩
      unfold chrsD at hd
      rw [List.getElem?_map, Option.map_eq_some_iff] at hd
      obtain ⟨c, hc, rfl⟩ := hd
      have hi : i < x.cps.size := by simpa using (List.getElem?_eq_some_iff.mp hc).1
      refine ⟨hi, fun y H3 g => ?_⟩
      obtain ⟨rfl, c', hc', rfl⟩ := g
      refine ⟨W2, Le.refl, rel2, ?_⟩
      rw [Array.getElem?_toList] at hc
      rw [hc] at hc'; cases hc'
      rfl, o.xq⟩⟩
end
theorem miStr_i {w : ME} {ρ : DEnv} {st : Sto} {xq : XQ} {k : List D → (Sto → Prop) → Sto → Prop} (h : w ρ st (fun d st1 => onS d fun x => k (chrsD x) noInv st1) xq) : miStr w ρ st k xq := h
theorem dIN_sign {n : Bool} {c : Nat} {z : Str} {st : Sto} {R : DQ} (h : R (.bl (if n then !decide (c ∈ z.cps.toList) else decide (c ∈ z.cps.toList))) st) : dIN n (.str ⟨#[c]⟩) (.str z) st R := by
  have e := PySem.StrLaws.found_one z c
  simp only [dIN, dr_strD, onS_str]
  rw [e]; exact h
theorem dEQ_s {n : Bool} {i j : Str} {st : Sto} {R : DQ} (h : R (.bl (xorB n (decide (i = j)))) st) : dEQ n (.str i) (.str j) st R := h
theorem dEQ_p {n : Bool} {x y : D} {p q : PyData} {st : Sto} {R : DQ} (ex : pyD x = some p) (ey : pyD y = some q) (sx : SeqAt.shaped p = true) (sy : SeqAt.shaped q = true) (h : R (.bl (xorB n (PyData.eqv p q))) st) : dEQ n x y st R := by
  have gen : (∃ m p q, pyD (res m st x) = some p ∧ pyD (res m st y) = some q ∧ SeqAt.shaped p = true ∧ SeqAt.shaped q = true ∧ R (.bl (xorB n (PyData.eqv p q))) st) → dEQ n x y st R := by
    intro g
    unfold dEQ
    split
    · simp only [pyD] at ex ey
      cases ex; cases ey
      have : PyData.eqv (.int ‹Int›) (.int ‹Int›) = decide (‹Int› = ‹Int›) := rfl
      rename_i i j
      have e : PyData.eqv (.int i) (.int j) = decide (i = j) := by by_cases z : i = j <;> simp [PyData.eqv, z]
      rw [← e]; exact h
    · simp only [pyD] at ex ey
      cases ex; cases ey
      rename_i i j
      have e : PyData.eqv (.bool i) (.bool j) = decide (i = j) := by by_cases z : i = j <;> simp [PyData.eqv, z]
      rw [← e]; exact h
    · simp only [pyD] at ex ey
      cases ex; cases ey
      rename_i i j
      have e : PyData.eqv (.str i) (.str j) = decide (i = j) := by by_cases z : i = j <;> simp [PyData.eqv, z]
      rw [← e]; exact h
    · exact g
  exact gen ⟨0, p, q, ex, ey, sx, sy, h⟩
/-! ### a locked dict's item -/
@[simp] def dIxF : D2 := fun x y st R => ∃ j o us kvs key d, x = .hdl j ∧ st[j]? = some (.fK o us kvs) ∧ toK y = some key ∧ valD kvs key = some d ∧ R d st
section
variable {G : Gm} {E : XK} {X : Cx}
theorem od_ixF : OpD G (rIX X.K) dIxF := by
  intro E W H st dx dy x y R xq Q rel rx ry w o
  obtain ⟨j, od, us, kvs, key, d, rfl, e1, e2, e3, w⟩ := w
  simp only [Rp] at rx
  obtain ⟨a, h1, rfl⟩ := rx
  obtain ⟨b, h2, h3, h4⟩ := rel.cell _ _ e1
  rw [h1] at h2; cases h2
  obtain rfl := toK_of ry e2
  rcases h4.val key with ⟨d', v, q1, q2, q3⟩ | ⟨q1, _⟩
  · rw [e3] at q1; cases q1
    exact .inr ⟨a, v, rfl, .inl ⟨us, key, .inr ⟨od, h3⟩, rfl, q2.symm⟩, o.rt W H d v st Le.refl rel q3 w⟩
  · rw [e3] at q1; cases q1
theorem pd_ixF {a b : Expr} {wa wb : ME} {pos : Pos} (hu : X.A.units + 1 < cLine) (ha : PDE G E X a wa) (hb : PDE G E X b wb) (hs : PlainIx b := by intro _ _; rfl) : PDE G E X (.Subscript a b pos) (mOp dIxF wa wb) :=
  PE.weak (pe_ix (ix_ALL hu) ha hb hs) fun _ _ _ h => op_lift od_ixF h
end
theorem dIxF_h {st : Sto} {R : DQ} {j : Nat} {o : Obj} {us : List (Key × V)} {kvs : List (Key × D)} {y d : D} {key : Key} (e : st[j]? = some (.fK o us kvs)) (q : toK y = some key) (v : valD kvs key = some d) (h : R d st) : dIxF (.hdl j) y st R := ⟨j, o, us, kvs, key, d, rfl, e, q, v, h⟩
end DL

set_option Elab.async false
set_option linter.all false
set_option maxRecDepth 100000
set_option autoImplicit false
namespace DL
open PySem PySem.Spec PyProof.Rows L2
/-! ## zip of lists, each pair under one name -/
section
variable {G : Gm} {E : XK} {X : Cx}
theorem mi_zipN {e e2 : Expr} {w : MA} {p pos tpos : Pos} {nm : Str} (hm : X.mg "zip" = none) (ha : PDA G E X [e, e2] w) (hg : Gl X "zip" := by rfl) (hs : starEach [e, e2] X.env = (false, eval e X.env) :: starEach [e2] X.env := by rfl) (hpl : (backTo pos (starEach [e2] X.env)).any (·.1) = false := by rfl) (hK : G.K = X.K := by rfl) :
    PDI G E X (.Name nm tpos) (.Call (.Name "zip" p) [e, e2] [] pos) (miZipA w) := by
  refine PI.weak (pi_zipN hg hm ha hs hpl) fun σ H Q ⟨W, ρ, st, R, xq, rel, re, w, o⟩ => ⟨W, ρ, st, _, xq, rel, re, w, ⟨fun W1 H1 ds vs st1 l1 rel1 rv w1 => ?_, o.xq⟩⟩
  rw [← hK]
  split at w1
  case h_2 => exact w1.elim
  rename_i a b
  obtain ⟨xs, ys, e1, e2, w1⟩ := w1
  obtain ⟨v, u, rfl, r1, r2⟩ := rpl2 rv
  obtain ⟨p, vs, rfl, h1, h2⟩ := dr_lst rel1 r1 e1
  obtain ⟨q, us, rfl, h3, h4⟩ := dr_lst rel1 r2 e2
  refine ⟨p, q, vs, us, rfl, SqL.of h1, SqL.of h3, o.rt W1 H1 _ _ _ st1 l1 rel1 (fun i W2 H2 st2 l2 rel2 hi => ?_) w1⟩
  obtain ⟨p', vs', e3, g1, g2⟩ := dr_lst rel2 (r1.leR l2) hi.1
  obtain ⟨q', us', e4, g3, g4⟩ := dr_lst rel2 (r2.leR l2) hi.2
  cases e3
  cases e4
  constructor
  · intro hl
    refine ⟨vs', us', SqL.of g1, SqL.of g3, ?_⟩
    have q : (zipD xs ys).length = min xs.length ys.length := by simp [zipD]
    rw [g2.length, g4.length]
    omega
  · intro d hd
    obtain ⟨x, y, k1, k2, rfl⟩ := zipD_get hd
    obtain ⟨v, k3, k4⟩ := g2.get k1
    obtain ⟨u, k5, k6⟩ := g4.get k2
    refine ⟨⟨vs', us', v, u, SqL.of g1, SqL.of g3, k3, k5⟩, ?_⟩
    rintro z H'' ⟨T, v', u', rfl, hT, rfl, f1, f2⟩
    have f3 := f1 vs' (SqL.of g1)
    rw [k3] at f3; cases f3
    have f4 := f2 us' (SqL.of g3)
    rw [k5] at f4; cases f4
    exact ⟨W2, Le.fresh hT, rel2.fresh hT, newT rel2 hT (RpL.cons k4 (.one k6))⟩
end
end DL

set_option Elab.async false
set_option linter.all false
set_option maxRecDepth 100000
set_option autoImplicit false
namespace L2
open PySem PySem.Spec PyProof.Rows
/-- sorted(d) of a dict of whole numbers, any number of them -/
def rSortDA : List V → Hp → VK → Prop := fun xs H Q => ∃ (a : Addr) (kvs : List (Key × V)) (ks : List Int), xs = [.ref a] ∧ Rd H a (.dK kvs) ∧ kvs.map (·.1) = ks.map Sum.inl ∧ ks.length ≤ sizeLine ∧ ∀ (ys : List Int) (p : Addr), ys.Perm ks → ys.Pairwise (· ≤ ·) → H p = none → Q (.ref p) (upd H p (.lst (ys.map V.int)))
theorem call_sortedDA {X : Cx} (hcalm : X.calm = true) : CallR X (.builtin "sorted") rSortDA := by
  intro pins s σ H xs us Q I r q
  obtain ⟨a, kvs, ks, ex, hd, hks, h64, q⟩ := q
  subst ex
  obtain ⟨u, eu, rx⟩ := vals1 r
  subst eu
  cases rx
  obtain ⟨z, lo, vs, rel, dd⟩ := dk_rd I.hok hd
  obtain ⟨ep, hat⟩ := dd.dictAt
  have hkeys : vs.map (·.1) = ks.map Sum.inl := rel.keys.symm.trans hks
  have hl : vs.length = ks.length := by
    have e := congrArg List.length hkeys
    rw [List.length_map, List.length_map] at e
    exact e
  have h16 : vs.length ≤ sizeLine := by rw [hl]; exact h64
  refine Calls.call_function_entry PyProof.Rows.kind_sorted PyProof.Rows.plain_sorted PyProof.Rows.entry_sorted (PyProof.Rows.args_sorted1 _) ?_
  unfold Builtin.«sorted»
  refine wpAny_bind (m := checkCount "sorted" 1 1 _) (wpAny_pure ?_)
  refine wpAny_bind (PySem.W.kdu_collect (A := X.A.in1) (PySem.W.kdl_dict (knd := mixKind X.prog X.w) (kvs := vs) (ep := ep) lo) (I.ok.hd hcalm) hat h16 fun h' tk acc hk hacc => ?_)
  have hal : acc.toList.length = ks.length := by rw [Array.length_toList, hacc.1, hl]
  have hS : IntsAre acc.toList ks := ints_each hal fun j v e => by
    obtain ⟨k, x, e1, e2⟩ := hacc.2 j v (by rw [← Array.getElem?_toList]; exact e)
    have e3 : (vs.map (·.1))[j]? = some k := by rw [List.getElem?_map, e1]; rfl
    rw [hkeys, List.getElem?_map] at e3
    cases e4 : ks[j]? with
    | none => rw [e4] at e3; cases e3
    | some y =>
      rw [e4] at e3
      have e5 : Sum.inl y = k := Option.some.inj e3
      subst e5
      rcases keyIs_shape (show keyIs (Sum.inl y) v = true from e2) with ⟨i, t, ek, ev⟩ | ⟨z, t, ek, ev⟩
      · cases ek
        exact ⟨y, t, rfl, ev⟩
      · cases ek
  have I1 : Inv X pins σ H { s with heap := h', toks := tk } := I.kept hk
  refine wpAny_bind (wpAny_newList ?_ (by rw [hal]; exact h64))
  have hoL : (h'.push (seqObj "list" acc.toList.toArray 0)).get? h'.objs.size = some (seqObj "list" acc.toList.toArray 0) := Heap.get?_push_size _ rfl
  show wpAny _ _ _ _ _ { s with heap := h'.push (seqObj "list" acc.toList.toArray 0), toks := tk }
  refine wpAny_bind (wpAny_holding (wpAny_call_entry PyProof.Rows.slot_list_sort ⟨_, hoL, rfl⟩ PyProof.Rows.entry_list_sort
    (SrtO.list_sort_ord (s := { s with heap := h'.push (seqObj "list" acc.toList.toArray 0), toks := tk }) SrtO.swo_int hoL (by rw [hal]; exact h64) (fun h2 => SrtO.ints_sortable hS h2) fun out h1 h2 => ⟨_, rfl, ?_⟩) (PyProof.Rows.args_list_sort _)))
  obtain ⟨g1, g2, g3⟩ := SrtO.ints_out hS h1 h2
  obtain ⟨e', he'⟩ := PyProof.Rows.sortedHeap_at (vs := acc.toList) (out := out.toArray) hoL
  have hlen : ((out.map SrtO.iv).map V.int).length ≤ sizeLine := by
    rw [List.length_map, g2.length_eq]
    exact h64
  refine wpAny_pure ⟨_, rfl, .ref h'.objs.size, upd H h'.objs.size (.lst ((out.map SrtO.iv).map V.int)), I1.laid (t' := tk) (fun b u e => ?_) (Nat.le_refl _)
    (show ObjOk X.prog X.w _ _ _ (.lst ((out.map SrtO.iv).map V.int)) from ⟨hlen, out, e', vals_of_ints g1, he'⟩), rfl, q _ _ g2 g3 (I1.hok.fresh (Nat.le_refl _))⟩
  have hb : b < h'.objs.size := Heap.lt_size e
  rw [PyProof.Rows.sortedHeap_old (Nat.ne_of_lt hb) (by rw [size_push']; exact Nat.lt_succ_of_lt hb)]
  exact Heap.get?_push_of_some _ e
end L2
namespace DL
open PySem PySem.Spec PyProof.Rows L2
section
variable {G : Gm} {X : Cx}
/-- sorted(..) of a dict's numbers, any number of them -/
@[simp] def dSortA : D1 := fun ds st R => match ds with
  | [d] => onK st d fun _ kvs => ∃ ks, keysI kvs = some ks ∧ ks.length ≤ sizeLine ∧ ∀ ys : List Int, ys.Perm ks → ys.Pairwise (· ≤ ·) → R (.lst (ys.map D.int)) st
  | _ => False
theorem cd_sortA : CaD G rSortDA dSortA := by
  intro E W H st ds vs R xq Q rel rs w o
  unfold dSortA at w
  split at w
  · obtain ⟨v, rfl, rv⟩ := rpl1 rs
    obtain ⟨j, a, kvs, us, rfl, h1, h2, h3, ks, e, hl, w⟩ := onK_of rel rv w
    obtain ⟨q1, q2⟩ := keysI_rp h3 e
    exact ⟨a, us, ks, rfl, .inl h2, q1, hl, fun ys p h4 h5 hp => o.rt W _ (.lst _) _ st (Le.fresh hp) (rel.fresh hp) (newL rel hp (RpL.of_ints ys)) (w ys h4 h5)⟩
  · cases w
theorem call_SORTDA (hc : X.calm = true) : CallR X (.builtin "sorted") rSortDA := call_sortedDA hc
theorem dSortA_h {st : Sto} {R : DQ} {j : Nat} {kvs : List (Key × D)} {ks : List Int} (e : st[j]? = some (.dK kvs)) (ek : keysI kvs = some ks) (hl : ks.length ≤ sizeLine) (h : ∀ ys : List Int, ys.Perm ks → ys.Pairwise (· ≤ ·) → R (.lst (ys.map D.int)) st) : dSortA [.hdl j] st R := by
  simp only [dSortA, onK_hdl e]; exact ⟨ks, ek, hl, h⟩
end
end DL
namespace L2
open PySem PySem.Spec PyProof.Rows
/-- (a, b, ..) = a list or a tuple of that length -/
def gTupQ (K : PySem.W.Frag) (n : Nat) (t : TGs) : TG := fun v σ H Q => ∃ a xs, v = .ref a ∧ (SqL K H a xs ∨ SqT K H a xs) ∧ xs.length = n ∧ t xs σ H Q
theorem pg_tupQ {X : Cx} {es : List Expr} {k : Nat} {t : TGs} {n : Nat} {pos : Pos} (hc : X.calm = true) (h : PGs X es t)
    (hn : (assignEach es X.env).length = n := by rfl) (hst : (assignEach es X.env).findIdx? (·.1) = none := by rfl) : PG X (.Tuple es k pos) (gTupQ X.K n t) := by
  refine ⟨fun pins s σ H v u Q I r hw => ?_⟩
  obtain ⟨a, xs, e1, hq, hl, hw⟩ := hw
  subst e1
  rcases hq with hq | hq
  · cases r
    obtain ⟨its, rv, ht, hz⟩ := I.list hq
    rw [assign_Tuple]
    refine wpAny_bind (wpAny_standAt ?_)
    unfold unpack
    have hz' : (assignEach es X.env).length = its.toArray.size := by simp [hn, ← hl, rv.length]
    rw [hz', hst]
    refine wpAny_bind (wpAny_holding (PySem.W.kun_itemsOf (I.ok.hd hc) ht.isList fun h' hx => ?_))
    have I1 : Inv X pins σ H { s with heap := h' } := I.kept (t' := s.toks) fun b o e => hx b o (Nat.ne_of_lt (Heap.lt_size e)) e
    exact h.run pins _ σ H xs _ Q I1 (by simpa using rv) hw
  · exact (pg_tup hc h hn hst).run pins s σ H _ u Q I r ⟨a, xs, rfl, hq, hl, hw⟩
end L2
namespace DL
open PySem PySem.Spec PyProof.Rows L2
section
variable {G : Gm} {E : XK} {X : Cx}
@[simp] def gTpL (n : Nat) (r : MGs) : MG := fun d ρ st k xq => ∃ ds, (dr st d = .lst ds ∨ dr st d = .tup ds) ∧ ds.length = n ∧ r ds ρ st k xq
theorem gd_tpL {es : List Expr} {j : Nat} {r : MGs} {n : Nat} {pos : Pos} (h : PDGs G E X es r) (hc : X.calm = true := by rfl) (hn : (assignEach es X.env).length = n := by rfl) (hst : (assignEach es X.env).findIdx? (·.1) = none := by rfl) (hK : G.K = X.K := by rfl) : PDG G E X (.Tuple es j pos) (gTpL n r) :=
  PG.weak (pg_tupQ hc h hn hst) fun v σ H Q ⟨W, d, ρ, st, k, xq, rel, re, rv, w, o⟩ => by
    obtain ⟨xs, hx, hl, w⟩ := w
    rw [← hK]
    rcases hx with hx | hx
    · obtain ⟨a, vs, rfl, q2, q3⟩ := dr_lst rel rv hx
      exact ⟨a, vs, rfl, .inl (SqL.of q2), by rw [q3.length]; exact hl, W, _, ρ, st, k, xq, rel, re, q3, w, o⟩
    · obtain rfl := dr_tup hx
      obtain ⟨a, vs, rfl, q2, q3⟩ := tup_sq rv
      exact ⟨a, vs, rfl, .inr q2, by rw [q3.length]; exact hl, W, _, ρ, st, k, xq, rel, re, q3, w, o⟩
theorem gTpL_l {n : Nat} {ds : List D} {g : MGs} {ρ : DEnv} {st : Sto} {k : DEnv → Sto → Prop} {xq : XQ} (e : ds.length = n) (h : g ds ρ st k xq) : gTpL n g (.lst ds) ρ st k xq := ⟨ds, .inl rfl, e, h⟩
theorem gTpL_t {n : Nat} {ds : List D} {g : MGs} {ρ : DEnv} {st : Sto} {k : DEnv → Sto → Prop} {xq : XQ} (e : ds.length = n) (h : g ds ρ st k xq) : gTpL n g (.tup ds) ρ st k xq := ⟨ds, .inr rfl, e, h⟩
theorem gTpL_h {n j : Nat} {ds : List D} {g : MGs} {ρ : DEnv} {st : Sto} {k : DEnv → Sto → Prop} {xq : XQ} (q : st[j]? = some (.lst ds)) (e : ds.length = n) (h : g ds ρ st k xq) : gTpL n g (.hdl j) ρ st k xq := ⟨ds, .inl (dr_hdl q), e, h⟩
end
end DL
namespace DL
open PySem PySem.Spec PyProof.Rows L2
/-- what is never come to -/
def mNev : ME := fun _ _ _ _ => False
theorem pd_nev {G : Gm} {E : XK} {X : Cx} {e : Expr} : PDE G E X e mNev := ⟨fun pins s σ H Q I h => (let ⟨_, _, _, _, _, _, _, w, _⟩ := h; False.elim w)⟩
end DL
namespace DL
open PySem PySem.Spec PyProof.Rows L2
section
variable {G : Gm} {E : XK} {X : Cx}
/-! ## zip of two lists or of two tuples -/
@[simp] def miZipQ (w : MA) : MI := fun ρ st R xq => w ρ st (fun ds st1 => match ds with | [a, b] => ∃ xs ys, ((dr st1 a = .lst xs ∧ dr st1 b = .lst ys ∧ R (zipD xs ys) (fun st' => dr st' a = .lst xs ∧ dr st' b = .lst ys) st1) ∨ (a = .tup xs ∧ b = .tup ys ∧ R (zipD xs ys) noInv st1)) | _ => False) xq
theorem mi_zipQ {e e2 : Expr} {w : MA} {p pos tpos : Pos} {elts : List Expr} {kk : Nat} (hm : X.mg "zip" = none) (ha : PDA G E X [e, e2] w) (hg : Gl X "zip" := by rfl) (hs : starEach [e, e2] X.env = (false, eval e X.env) :: starEach [e2] X.env := by rfl) (hpl : (backTo pos (starEach [e2] X.env)).any (·.1) = false := by rfl) (hK : G.K = X.K := by rfl) :
    PDI G E X (.Tuple elts kk tpos) (.Call (.Name "zip" p) [e, e2] [] pos) (miZipQ w) :=
  PI.weak (RZ.pi_zipA hg hm ha hs hpl) fun σ H Q ⟨W, ρ, st, R, xq, rel, re, w, o⟩ =>
    ⟨W, ρ, st, _, xq, rel, re, w, ⟨fun W1 H1 ds vs st1 l1 rel1 rv w1 => by
      rw [← hK]
      split at w1
      · rename_i a b
        obtain ⟨v, u, rfl, r1, r2⟩ := rpl2 rv
        obtain ⟨xs, ys, ⟨e1, e2, w1⟩ | ⟨rfl, rfl, w1⟩⟩ := w1
        · obtain ⟨p, vs, rfl, h1, h2⟩ := dr_lst rel1 r1 e1
          obtain ⟨q, us, rfl, h3, h4⟩ := dr_lst rel1 r2 e2
          refine ⟨p, q, vs, us, rfl, .inl ⟨SqL.of h1, SqL.of h3, o.rt W1 H1 _ _ _ st1 l1 rel1 ?_ w1⟩⟩
          intro i W2 H2 st2 l2 rel2 hi
          obtain ⟨p', vs', e3, g1, g2⟩ := dr_lst rel2 (r1.leR l2) hi.1
          obtain ⟨q', us', e4, g3, g4⟩ := dr_lst rel2 (r2.leR l2) hi.2
          cases e3
          cases e4
          refine ⟨fun hl => ⟨vs', us', SqL.of g1, SqL.of g3, ?_⟩, fun d hd => ?_⟩
          · rw [g2.length, g4.length]
            have : (zipD xs ys).length = min xs.length ys.length := by simp [zipD]
            omega
          · obtain ⟨x, y, k1, k2, rfl⟩ := zipD_get hd
            obtain ⟨v, k3, k4⟩ := g2.get k1
            obtain ⟨u, k5, k6⟩ := g4.get k2
            refine ⟨⟨vs', us', v, u, SqL.of g1, SqL.of g3, k3, k5⟩, fun z H'' g => ?_⟩
            obtain ⟨T, v', u', rfl, hT, rfl, f1, f2⟩ := g
            have f3 := f1 vs' (SqL.of g1)
            rw [k3] at f3; cases f3
            have f4 := f2 us' (SqL.of g3)
            rw [k5] at f4; cases f4
            exact ⟨W2, Le.fresh hT, rel2.fresh hT, newT rel2 hT (RpL.cons k4 (.one k6))⟩
        · obtain ⟨p, vs, rfl, h1, h2⟩ := tup_sq r1
          obtain ⟨q, us, rfl, h3, h4⟩ := tup_sq r2
          refine ⟨p, q, vs, us, rfl, .inr ⟨h1, h3, o.rt W1 H1 _ _ _ st1 l1 rel1 ?_ w1⟩⟩
          intro i W2 H2 st2 l2 rel2 hi
          obtain ⟨p', vs', e3, g1, g2⟩ := tup_sq (r1.leR l2)
          obtain ⟨q', us', e4, g3, g4⟩ := tup_sq (r2.leR l2)
          cases e3
          cases e4
          refine ⟨fun hl => ⟨vs', us', g1, g3, ?_⟩, fun d hd => ?_⟩
          · rw [g2.length, g4.length]
            have : (zipD xs ys).length = min xs.length ys.length := by simp [zipD]
            omega
          · obtain ⟨x, y, k1, k2, rfl⟩ := zipD_get hd
            obtain ⟨v, k3, k4⟩ := g2.get k1
            obtain ⟨u, k5, k6⟩ := g4.get k2
            refine ⟨⟨vs', us', v, u, g1, g3, k3, k5⟩, fun z H'' g => ?_⟩
            obtain ⟨T, v', u', rfl, hT, rfl, f1, f2⟩ := g
            have f3 := f1 vs' g1
            rw [k3] at f3; cases f3
            have f4 := f2 us' g3
            rw [k5] at f4; cases f4
            exact ⟨W2, Le.fresh hT, rel2.fresh hT, newT rel2 hT (RpL.cons k4 (.one k6))⟩
      · exact w1.elim, o.xq⟩⟩
end
end DL

set_option Elab.async false
set_option linter.all false
set_option maxRecDepth 100000
set_option autoImplicit false
namespace L2
open PySem PySem.Spec PyProof.Rows
section
variable {X : Cx} {a b c d : Expr} {ta tb tc td : TE} {pos : Pos}
/-- a < b < c < d -/
def tChain3 (r r' r'' : R2) (ta tb tc td : TE) : TE := fun σ H Q => ta σ H fun x H1 => tb σ H1 fun y H2 => r x y H2 fun z H3 => ∃ k, z = .bl k ∧
  (if k = true then tc σ H3 fun u H4 => r' y u H4 fun z' H5 => ∃ k', z' = .bl k' ∧ (if k' = true then td σ H5 fun w' H6 => r'' u w' H6 Q else Q (.bl false) H5) else Q (.bl false) H3)
theorem pe_chain3 {op op' op'' : CmpOp} {r r' r'' : R2} (ho : OpR X (compareOp op) r) (ho' : OpR X (compareOp op') r') (ho'' : OpR X (compareOp op'') r'') (ha : PE X a ta) (hb : PE X b tb) (hc : PE X c tc) (hd : PE X d td)
    (hm : lastMarks [op, op', op''] [b, c, d] = false := by with_unfolding_all rfl) : PE X (.Compare a [op, op', op''] [b, c, d] pos) (tChain3 r r' r'' ta tb tc td) := by
  refine ⟨fun pins s σ H Q I h => ?_⟩
  refine Compare_chain (thn (ha.run pins s σ H _ I h) fun v s1 ⟨x, H1, I1, r1, q1⟩ => chain_link (thn (hb.run pins s1 σ H1 _ I1 q1) fun u s2 ⟨y, H2, I2, r2, q2⟩ =>
    thn (ho pins s2 σ H2 x y v u _ I2 r1 r2 q2) fun d s3 ⟨z, H3, I3, r3, k, e, q3⟩ => ?_)) hm
  subst e
  cases r3
  refine wpAny_truthy_bool ?_
  cases k with
  | false => exact ite_ff ⟨.bl false, H3, I3, rfl, q3⟩
  | true =>
    refine ite_tt (chain_link (thn (hc.run pins s3 σ H3 _ I3 q3) fun w' s4 ⟨z', H4, I4, r4, q4⟩ => thn (ho' pins s4 σ H4 y z' u w' _ I4 r2 r4 q4) fun d' s5 ⟨z2, H5, I5, r5, k', e', q5⟩ => ?_))
    subst e'
    cases r5
    refine wpAny_truthy_bool ?_
    cases k' with
    | false => exact ite_ff ⟨.bl false, H5, I5, rfl, q5⟩
    | true => exact ite_tt (chain_last (thn (hd.run pins s5 σ H5 _ I5 q5) fun w2 s6 ⟨z3, H6, I6, r6, q6⟩ => ho'' pins s6 σ H6 z' z3 w' w2 Q I6 r4 r6 q6))
end
end L2
namespace DL
open PySem PySem.Spec PyProof.Rows L2
section
variable {G : Gm} {E : XK} {X : Cx}
/-! ## a < b < c < d -/
@[simp] def mChn3 (r r' r'' : D2) (wa wb wc wd : ME) : ME := fun ρ st R xq => wa ρ st (fun x st1 => wb ρ st1 (fun y st2 => r x y st2 (fun z st3 => onB z fun k => if k = true then wc ρ st3 (fun u st4 => r' y u st4 (fun z' st5 => onB z' fun k' => if k' = true then wd ρ st5 (fun t st6 => r'' u t st6 R) xq else R (.bl false) st5)) xq else R (.bl false) st3)) xq) xq
theorem pd_chn3 {a b c d : Expr} {wa wb wc wd : ME} {op op' op'' : CmpOp} {r r' r'' : R2} {d1 d2 d3 : D2} {pos : Pos} (ho : OpR X (compareOp op) r) (h1 : OpD G r d1) (ho' : OpR X (compareOp op') r') (h2 : OpD G r' d2) (ho'' : OpR X (compareOp op'') r'') (h3 : OpD G r'' d3) (ha : PDE G E X a wa) (hb : PDE G E X b wb) (hc : PDE G E X c wc) (hd : PDE G E X d wd)
    (hm : lastMarks [op, op', op''] [b, c, d] = false := by with_unfolding_all rfl) : PDE G E X (.Compare a [op, op', op''] [b, c, d] pos) (mChn3 d1 d2 d3 wa wb wc wd) :=
  PE.weak (pe_chain3 ho ho' ho'' ha hb hc hd hm) fun σ H Q h => by
    obtain ⟨W, ρ, st, R, xq, rel, re, w, o⟩ := h
    refine ⟨W, ρ, st, _, xq, rel, re, w, ⟨fun W1 H1 dx x st1 l1 rel1 rx w1 => ?_, o.xq⟩⟩
    refine ⟨W1, ρ, st1, _, xq, rel1, re.le l1, w1, ⟨fun W2 H2 dy y st2 l2 rel2 ry w2 => ?_, (o.le l1).xq⟩⟩
    refine h1 E W2 H2 st2 dx dy x y _ xq _ rel2 (rx.le l2) ry w2 ⟨fun W3 H3 dz z st3 l3 rel3 rz w3 => ?_, (o.le (l1.trans l2)).xq⟩
    obtain ⟨k, rfl, w3⟩ := onB_of rz w3
    refine ⟨k, rfl, ?_⟩
    cases k with
    | false => exact o.rt W3 H3 (.bl false) _ st3 (l1.trans (l2.trans l3)) rel3 rfl w3
    | true =>
      have l13 := l1.trans (l2.trans l3)
      refine ⟨W3, ρ, st3, _, xq, rel3, re.le l13, w3, ⟨fun W4 H4 du u st4 l4 rel4 ru w4 => ?_, (o.le l13).xq⟩⟩
      refine h2 E W4 H4 st4 dy du y u _ xq _ rel4 (ry.le (l3.trans l4)) ru w4 ⟨fun W5 H5 dz' z' st5 l5 rel5 rz' w5 => ?_, (o.le (l13.trans l4)).xq⟩
      obtain ⟨k', rfl, w5⟩ := onB_of rz' w5
      refine ⟨k', rfl, ?_⟩
      have l15 := l13.trans (l4.trans l5)
      cases k' with
      | false => exact o.rt W5 H5 (.bl false) _ st5 l15 rel5 rfl w5
      | true =>
        refine ⟨W5, ρ, st5, _, xq, rel5, re.le l15, w5, ⟨fun W6 H6 dt t st6 l6 rel6 rt w6 => ?_, (o.le l15).xq⟩⟩
        exact h3 E W6 H6 st6 du dt u t R xq Q rel6 (ru.le (l5.trans l6)) rt w6 (o.le (l15.trans l6))
theorem mChn3_i {d1 d2 d3 : D2} {wa wb wc wd : ME} {ρ : DEnv} {st : Sto} {R : DQ} {xq : XQ} (h : wa ρ st (fun x st1 => wb ρ st1 (fun y st2 => d1 x y st2 (fun z st3 => onB z fun k => if k = true then wc ρ st3 (fun u st4 => d2 y u st4 (fun z' st5 => onB z' fun k' => if k' = true then wd ρ st5 (fun t st6 => d3 u t st6 R) xq else R (.bl false) st5)) xq else R (.bl false) st3)) xq) xq) : mChn3 d1 d2 d3 wa wb wc wd ρ st R xq := h
/-! ## x in a list of data of any depth -/
@[simp] def dIND (neg : Bool) : D2 := fun x y st R => ∃ n p ps, pyD (res n st x) = some p ∧ pyD (res n st y) = some (.list ps) ∧ SeqAt.shaped p = true ∧ SeqAt.shaped (.list ps) = true ∧ R (.bl (xorB neg (ps.any fun z => PyData.eqv z p))) st
theorem od_inD (hK : G.K = X.K) : OpD G (rInD X.K) (dIND false) := by
  intro E W H st dx dy x y R xq Q rel rx ry w o
  rw [← hK]
  obtain ⟨n, p, ps, h1, h2, h3, h4, w⟩ := w
  exact ⟨p, ps, res_dp rel n rx h1, res_dp rel n ry h2, h3, h4, o.rt W H (.bl _) _ st Le.refl rel rfl w⟩
theorem od_notInD (hK : G.K = X.K) : OpD G (rNotInD X.K) (dIND true) := by
  intro E W H st dx dy x y R xq Q rel rx ry w o
  rw [← hK]
  obtain ⟨n, p, ps, h1, h2, h3, h4, w⟩ := w
  exact ⟨p, ps, res_dp rel n rx h1, res_dp rel n ry h2, h3, h4, o.rt W H (.bl _) _ st Le.refl rel rfl w⟩
theorem hu65 {k : Nat} {A : Around} (hr : Room k A) : A.units + 65 < cLine := by have := hr.un; omega
theorem pd_inD {a b : Expr} {wa wb : ME} {pos : Pos} (hu : X.A.units + 65 < cLine) (ha : PDE G E X a wa) (hb : PDE G E X b wb) (hm : behindInMarks .In b = false := by rfl) (hK : G.K = X.K := by rfl) : PDE G E X (.Compare a [.In] [b] pos) (mOp (dIND false) wa wb) := pd_cmp (op_inD hu) (od_inD hK) ha hb hm
theorem pt_inD {a b : Expr} {wa wb : ME} {pos : Pos} (hu : X.A.units + 65 < cLine) (ha : PDE G E X a wa) (hb : PDE G E X b wb) (hm : behindInMarks .In b = false := by rfl) (hK : G.K = X.K := by rfl) : PDT G E X (.Compare a [.In] [b] pos) (mTest (mOp (dIND false) wa wb)) := pt_cmp (op_inD hu) (od_inD hK) ha hb hm
theorem pd_ninD {a b : Expr} {wa wb : ME} {pos : Pos} (hu : X.A.units + 65 < cLine) (ha : PDE G E X a wa) (hb : PDE G E X b wb) (hm : behindInMarks .NotIn b = false := by rfl) (hK : G.K = X.K := by rfl) : PDE G E X (.Compare a [.NotIn] [b] pos) (mOp (dIND true) wa wb) := pd_cmp (op_notInD hu) (od_notInD hK) ha hb hm
theorem pt_ninD {a b : Expr} {wa wb : ME} {pos : Pos} (hu : X.A.units + 65 < cLine) (ha : PDE G E X a wa) (hb : PDE G E X b wb) (hm : behindInMarks .NotIn b = false := by rfl) (hK : G.K = X.K := by rfl) : PDT G E X (.Compare a [.NotIn] [b] pos) (mTest (mOp (dIND true) wa wb)) := pt_cmp (op_notInD hu) (od_notInD hK) ha hb hm
/-! ## l.index(x) -/
@[simp] def dIdxD : DM := fun x ds st R => match ds with
  | [y] => ∃ n p ps j z, pyD (res n st x) = some (.list ps) ∧ pyD (res n st y) = some p ∧ SeqAt.shaped (.list ps) = true ∧ SeqAt.shaped p = true ∧ ps[j]? = some z ∧ PyData.eqv z p = true ∧ (∀ (m : Nat) (z' : PyData), m < j → ps[m]? = some z' → PyData.eqv z' p = false) ∧ R (.int (j : Nat)) st
  | _ => False
theorem md_idxD (hK : G.K = X.K) : MeD G (rIndexD X.K) dIdxD := by
  intro E W H st dx ds x vs R xq Q rel rx rs w o
  rw [← hK]
  unfold dIdxD at w
  split at w
  · obtain ⟨v, rfl, rv⟩ := rpl1 rs
    obtain ⟨n, p, ps, j, z, h1, h2, h3, h4, h5, h6, h7, w⟩ := w
    have hd := res_dp rel n rx h1
    have key : ∀ {v : V} {p : PyData}, Dp G.K H v p → p = .list ps → ∃ a, v = .ref a := by
      intro v p h e
      cases h with
      | lst _ _ => exact ⟨_, rfl⟩
      | non => cases e
      | bl _ => cases e
      | int _ => cases e
      | str _ => cases e
      | tup _ _ => cases e
    obtain ⟨a, rfl⟩ := key hd rfl
    exact ⟨a, v, p, ps, j, z, rfl, rfl, hd, res_dp rel n rv h2, h3, h4, h5, h6, h7, o.rt W H (.int _) _ st Le.refl rel rfl w⟩
  · cases w
/-! ## list(range(n)) -/
@[simp] def mLstR (w : ME) : ME := fun ρ st R xq => w ρ st (fun d st1 => onI d fun j => -(2 ^ 62) ≤ j ∧ j ≤ 16777216 ∧ R (.lst (rngD 0 j.toNat)) st1) xq
@[simp] def mLstRH (w : ME) : ME := fun ρ st R xq => w ρ st (fun d st1 => onI d fun j => -(2 ^ 62) ≤ j ∧ j ≤ 16777216 ∧ R (.hdl st1.length) (st1 ++ [.lst (rngD 0 j.toNat)])) xq
theorem rgV_rp {K : PySem.W.Frag} {W : Wd} {H : Hp} (n : Nat) : RpL K W H (rngD 0 n) (rgV 0 (n : Int)) := by
  have e1 : rngD 0 n = ((List.range n).map fun i => (0 : Int) + (i : Nat)).map D.int := by unfold rngD; rw [List.map_map]; rfl
  have e2 : rgV 0 (n : Int) = ((List.range n).map fun i => (0 : Int) + (i : Nat)).map V.int := by
    unfold rgV
    have : ((n : Int) - 0).toNat = n := by omega
    rw [this, List.map_map]; rfl
  rw [e1, e2]
  exact RpL.of_ints _
theorem rg_neg {j : Int} (h : j ≤ 0) : rgV 0 j = rgV 0 ((0 : Nat) : Int) := by
  unfold rgV
  have : (j - 0).toNat = 0 := by omega
  rw [this]; rfl
theorem rgV_to (j : Int) : rgV 0 j = rgV 0 ((j.toNat : Nat) : Int) := by
  by_cases h : 0 ≤ j
  · rw [Int.toNat_of_nonneg h]
  · rw [rg_neg (by omega), show j.toNat = 0 by omega]
theorem pd_lstR {e : Expr} {we : ME} {p p2 pos pos2 : Pos} (hm : X.mg "list" = none) (hm2 : X.mg "range" = none) (he : PDE G E X e we) (hc : X.calm = true := by rfl) (hg : Gl X "list" := by rfl) (hg2 : Gl X "range" := by rfl)
    (na : starEach [e] X.env = (false, eval e X.env) :: starEach [] X.env := by rfl) (na2 : starEach [.Call (.Name "range" p2) [e] [] pos2] X.env = (false, eval (.Call (.Name "range" p2) [e] [] pos2) X.env) :: starEach [] X.env := by rfl) :
    PDE G E X (.Call (.Name "list" p) [.Call (.Name "range" p2) [e] [] pos2] [] pos) (mLstR we) :=
  PE.weak (pe_listRg hc hg hm (prg_1 hg2 hm2 he na) na2) fun σ H Q ⟨W, ρ, st, R, xq, rel, re, w, o⟩ =>
    ⟨W, ρ, st, _, xq, rel, re, w, ⟨fun W1 H1 d v st1 l1 rel1 rv w1 => by
      obtain ⟨j, rfl, h1, h2, w1⟩ := onI_of rv w1
      refine ⟨j, rfl, ⟨by omega, by omega, by omega, by omega, by omega⟩, fun q hq => ?_⟩
      rw [rgV_to]
      exact o.rt W1 _ (.lst _) _ st1 (l1.trans (Le.fresh hq)) (rel1.fresh hq) (newL rel1 hq (rgV_rp _)) w1, o.xq⟩⟩
theorem pd_lstRH {e : Expr} {we : ME} {p p2 pos pos2 : Pos} (hm : X.mg "list" = none) (hm2 : X.mg "range" = none) (he : PDE G E X e we) (hc : X.calm = true := by rfl) (hg : Gl X "list" := by rfl) (hg2 : Gl X "range" := by rfl)
    (na : starEach [e] X.env = (false, eval e X.env) :: starEach [] X.env := by rfl) (na2 : starEach [.Call (.Name "range" p2) [e] [] pos2] X.env = (false, eval (.Call (.Name "range" p2) [e] [] pos2) X.env) :: starEach [] X.env := by rfl) :
    PDE G E X (.Call (.Name "list" p) [.Call (.Name "range" p2) [e] [] pos2] [] pos) (mLstRH we) :=
  PE.weak (pe_listRg hc hg hm (prg_1 hg2 hm2 he na) na2) fun σ H Q ⟨W, ρ, st, R, xq, rel, re, w, o⟩ =>
    ⟨W, ρ, st, _, xq, rel, re, w, ⟨fun W1 H1 d v st1 l1 rel1 rv w1 => by
      obtain ⟨j, rfl, h1, h2, w1⟩ := onI_of rv w1
      refine ⟨j, rfl, ⟨by omega, by omega, by omega, by omega, by omega⟩, fun q hq => ?_⟩
      rw [rgV_to]
      obtain ⟨k2, k3⟩ := newHL rel1 hq (rgV_rp (K := G.K) (W := W1) (H := H1) j.toNat)
      exact o.rt _ _ _ _ _ (l1.trans (Le.new hq)) k2 k3 w1, o.xq⟩⟩
end
end DL

set_option Elab.async false
set_option linter.all false
set_option maxRecDepth 100000
set_option autoImplicit false
namespace L2
open PySem PySem.Spec PyProof.Rows
section
variable {X : Cx} {CX : CXT} {C f : Addr} {fd : FuncData} {ps : List Str} {sp : Sp} {E : XK} {k : Nat}
/-- len(x), x of an own class with an own __len__ -/
def rLenO (C : Addr) (sp : Sp) (E : XK) : List V → Hp → VK → Prop := fun xs H Q => ∃ (a dx : Addr) (fs : List (Str × V)), xs = [.ref a] ∧ H a = some (.ins C dx fs) ∧ sp [.ref a] H (fun v H' => ∃ n : Int, v = .int n ∧ 0 ≤ n ∧ n < 2 ^ 63 ∧ Q (.int n) H') E
theorem call_lenO (hm : Meth X.K C "__len__" f) (F : FnOk X.prog X.w X.K X.mg X.base CX k f fd ps sp) (hr : Room (k + 1) X.A) (hb : Binds X.K fd ps []) (hx : Passes CX X E) : CallR X (.builtin "len") (rLenO C sp E) := by
  intro pins s σ H xs us Q I r q
  obtain ⟨a, dx, fs, ex, ea, q⟩ := q
  subst ex
  obtain ⟨u, eu, rx⟩ := vals1 r
  subst eu
  obtain rfl : u = Value.ref a := rx
  obtain ⟨mA, J, _⟩ := ins_get I.hok ea
  obtain ⟨od, J, _⟩ := J.look
  obtain ⟨m, hF⟩ := I.fr
  refine PySem.W.len_K hF I.ok.mod.kin J hm.at_ hm.fn ?_
  have hl := F.len _ _ _ _ q
  have r2 : Vals [V.ref a] [Value.ref a] := .cons rfl .nil
  have e0 : Env0 X.prog X.w X.K X.mg X.base X.A.in1 X.stack s H := by
    have e := I.env0
    exact ⟨e.frames, e.mod, e.bs, e.bsz, e.funs, e.frf, e.hok, e.bare⟩
  refine wpAny_call (codeAny_mono (F.run X.A.in1 X.stack s H ⟨[.ref a], []⟩ [.ref a] [.ref a] _ E hr.in1 e0 (by
    have := hb s [.ref a] I.kIn (by simpa using hl)
    simpa using this) r2 q) fun r s' hq => ?_)
  cases r with
  | error e => exact hx pins σ H s e s' I hq
  | ok fl =>
    cases fl with
    | ret w =>
      obtain ⟨z, H', I', rz, n, rfl, n0, n1, hQ⟩ := I.after hq
      obtain ⟨t, rfl⟩ := rz
      exact ⟨⟨n0, n1⟩, .int n, H', I'.tok _, ⟨_, rfl⟩, hQ⟩
    | next => exact False.elim hq
    | brk => exact False.elim hq
    | cont => exact False.elim hq
end
end L2
namespace DL
open PySem PySem.Spec PyProof.Rows L2
section
variable {G : Gm} {E : XK} {X : Cx}
/-- len(x) by an own __len__ -/
@[simp] def dLenO (C : Addr) (dsp : DSp) : D1 := fun ds st R => match ds with
  | [d] => (onO st d C fun _ _ => True) ∧ dsp [d] st (fun z st2 => onI z fun n => 0 ≤ n ∧ n < 2 ^ 63 ∧ R (.int n) st2) noX
  | _ => False
theorem call_LENO {C : Addr} {N : List Str} {dsp : DSp} {k : Nat} (c : CalM X.prog X.w G X.mg X.base k C N "__len__" dsp) (hr : Room (k + 1) X.A) (hK : G.K = X.K) : CallR X (.builtin "len") (rLenO C (spD G dsp) E0) := by
  obtain ⟨f, fd, ps, F, hm, hb⟩ := c.ex
  unfold FnD at F
  rw [hK] at F hm hb
  exact call_lenO hm F hr hb passA
theorem cd_lenO {C : Addr} {dsp : DSp} : CaD G (rLenO C (spD G dsp) E0) (dLenO C dsp) := by
  intro E W H st ds vs R xq Q rel rs w o
  unfold dLenO at w
  split at w
  · obtain ⟨v, rfl, rv⟩ := rpl1 rs
    obtain ⟨j, a, dd, fs, vs, rfl, h1, h2, h3, _⟩ := onO_of rel rv w.1
    refine ⟨a, dd, vs, rfl, h2, W, _, st, _, noX, rel, rs, w.2, ⟨fun W2 H2 d2 v2 st2 l2 rel2 rv2 w2 => ?_, fun _ _ _ _ _ _ z => z.elim⟩⟩
    obtain ⟨n, rfl, n0, n1, w2⟩ := onI_of rv2 w2
    exact ⟨n, rfl, n0, n1, o.rt W2 H2 (.int n) _ st2 l2 rel2 rfl w2⟩
  · cases w
theorem dLenO_i {C : Addr} {dsp : DSp} {d : D} {st : Sto} {R : DQ} (h1 : onO st d C fun _ _ => True) (h2 : dsp [d] st (fun z st2 => onI z fun n => 0 ≤ n ∧ n < 2 ^ 63 ∧ R (.int n) st2) noX) : dLenO C dsp [d] st R := ⟨h1, h2⟩
end
end DL

set_option Elab.async false
set_option linter.all false
set_option maxRecDepth 100000
set_option autoImplicit false
set_option maxHeartbeats 4000000
/-! xs[::-1] of lists and tuples -/
namespace DL
open PySem PySem.Spec PyProof.Rows L2
section
variable {prog : Program} {w : World} {A : Around} {E : Value → Shared → Prop} {s : Shared}
theorem rev_adjust (n : Nat) : Builtin.Slice.sliceAdjust none none (-1) (n : Int) = ((n : Int) - 1, -1) := by
  unfold Builtin.Slice.sliceAdjust
  simp
theorem rev_places (n : Nat) : Builtin.Slice.slicePlaces ((n : Int) - 1) (-1) (-1) = n := by
  unfold Builtin.Slice.slicePlaces
  have h1 : ¬ ((-1 : Int) > 0) := by omega
  simp only [h1, if_false, show (- -1 : Int) = 1 by decide, Int.ediv_one]
  split <;> omega
theorem rev_pick (xs : Array Value) : ((List.range xs.size).filterMap fun (m : Nat) => xs[(((xs.size : Int) - 1) + (m : Int) * (-1)).toNat]?).toArray = xs.toList.reverse.toArray := by
  have e : (fun (m : Nat) => xs[(((xs.size : Int) - 1) + (m : Int) * (-1)).toNat]?) = (fun k : Nat => xs[k]?) ∘ fun m => xs.size - 1 - m := by
    funext m
    have h1 : (((xs.size : Int) - 1) + (m : Int) * (-1)).toNat = xs.size - 1 - m := by omega
    rw [h1]
    rfl
  rw [e, ← List.filterMap_map, PySem.W.krv_range, List.filterMap_reverse, PySem.W.krv_all]
theorem rev_applied {sl : Addr} {vl vu vs : Value} {n : Nat} {Q : Int × Int × Nat → Shared → Prop} (hs : s.heap.IsSliceOf sl vl vu vs) (pl : IsPart vl none) (pu : IsPart vu none) (ps : IsPart vs (some (-1)))
    (h : Q ((n : Int) - 1, -1, n) s) : wpAny (model prog w) A (Builtin.Slice.sliceApplied (.ref sl) (pure (n : Int))) Q E s := by
  obtain ⟨os, hos, hcs, hds⟩ := id hs
  unfold Builtin.Slice.sliceApplied Builtin.Slice.sliceFields
  refine wpAny_bind (wpAny_bind (wpAny_field hos hds (x := vl) rfl (wpAny_bind (wpAny_field hos hds (x := vu) rfl (wpAny_bind (wpAny_field hos hds (x := vs) rfl (wpAny_pure ?_)))))))
  refine wpAny_bind (HT.slicePart_ ps ?_)
  show wpAny _ _ (if ((-1 : Int) == 0) = true then _ else _) _ _ s
  rw [if_neg (by decide)]
  refine wpAny_bind (HT.slicePart_ pl (wpAny_bind (HT.slicePart_ pu (wpAny_bind (wpAny_pure ?_)))))
  show wpAny _ _ (match Builtin.Slice.sliceAdjust none none (-1) (n : Int) with | (lo, hi) => pure (lo, (-1 : Int), Builtin.Slice.slicePlaces lo hi (-1))) _ _ s
  rw [rev_adjust n]
  show wpAny _ _ (pure ((n : Int) - 1, (-1 : Int), Builtin.Slice.slicePlaces ((n : Int) - 1) (-1) (-1))) _ _ s
  rw [rev_places]
  exact wpAny_pure h
theorem getItem_tuple_rev {t sl : Addr} {items : Array Value} {vl vu vs : Value} {Q : Value → Shared → Prop} (ht : IsTup s.heap t items) (hs : s.heap.IsSliceOf sl vl vu vs) (pl : IsPart vl none) (pu : IsPart vu none) (ps : IsPart vs (some (-1)))
    (h : Q (.ref s.heap.objs.size) { s with heap := s.heap.push { cls := .type "tuple", data := .seq items.toList.reverse.toArray } })
    (hsz : items.size ≤ sizeLine) : wpAny (model prog w) A (getItem (.ref t) (.ref sl)) Q E s := by
  have htake : sizeOk (.seq items.toList.reverse.toArray) := by
    show items.toList.reverse.toArray.size ≤ sizeLine
    rw [List.size_toArray, List.length_reverse, Array.length_toList]
    exact hsz
  obtain ⟨os, hos, hcs, hds⟩ := id hs
  have hTs : s.TypeIs (.ref sl) "slice" := ⟨os, hos, hcs⟩
  unfold getItem
  try with_reducible refine wpAny_holding ?_
  first | refine wpAny_bind (wpAny_pure ?_) | skip
  refine wpAny_bind (wpAny_sequenceKey ht.typeIs (by decide) ?_)
  refine wpAny_bind (wpAny_callSpecial?_slot (name := Str.ofString "__getitem__") ht.typeIs PyProof.Rows.slot_tuple_getitem
    (wpAny_call_entry PyProof.Rows.slot_tuple_getitem ht.typeIs entry_tuple_getitem ?_ (args_tuple_getitem _ _)))
  show wpAny _ _ (Builtin.Tuple.tupleItemsOf (.ref t) >>= _) _ _ s
  refine wpAny_bind (tupleItemsOf_ ht ?_)
  refine wpAny_bind (wpAny_typeOf hTs ?_)
  rw [if_pos (by decide)]
  refine wpAny_bind (rev_applied hs pl pu ps ?_)
  have hno : ¬ ((((items.size : Int) - 1) == 0 && (-1 : Int) == 1 && items.size == items.size) = true) := by
    rw [show ((-1 : Int) == 1) = false from rfl]; simp
  show wpAny _ _ (if ((((items.size : Int) - 1) == 0 && (-1 : Int) == 1 && items.size == items.size) = true) then _ else _) _ _ s
  rw [if_neg hno, rev_pick]
  first
    | exact wpAny_bind (m := Builtin.Tuple.tupleExact _) (wpAny_newObj_type (wpAny_pure ⟨_, rfl, wpAny_pure h⟩) htake)
    | exact wpAny_bind (m := Builtin.Tuple.tupleExact _) (wpAny_newObj_type (wpAny_bind (wpAny_pure (wpAny_pure ⟨_, rfl, wpAny_pure h⟩))) htake)
    | exact wpAny_bind (wpAny_bind (m := Builtin.Tuple.tupleExact _) (wpAny_newObj_type (wpAny_pure (wpAny_pure ⟨_, rfl, wpAny_pure h⟩)) htake))
    | exact wpAny_bind (wpAny_bind (m := Builtin.Tuple.tupleExact _) (wpAny_newObj_type (wpAny_pure ⟨_, rfl, wpAny_pure h⟩) htake))
end
def rStepA (K : PySem.W.Frag) : V → V → Hp → VK → Prop := fun x y H Q => rStep K x y H Q ∨ ∃ a xs, x = .ref a ∧ SqT K H a xs ∧ y = .int (-1) ∧ ∀ p, H p = none → Q (.ref p) (upd H p (.tup xs.reverse))
def tStepA (K : PySem.W.Frag) (te ts : TE) : TE := fun σ H Q => te σ H fun x H1 => ts σ H1 fun y H2 => rStepA K x y H2 Q
section
variable {G : Gm} {E : XK} {X : Cx}
theorem pe_stepA {e c : Expr} {te ts : TE} {p3 pos : Pos} (he : PE X e te) (hc : PE X c ts)
    (hsub : ∀ o i, subscripted (.Slice none none (some c) p3) false o i = operate [o, i] (getItem o i)) : PE X (.Subscript e (.Slice none none (some c) p3) pos) (tStepA X.K te ts) := by
  refine ⟨fun pins s σ H Q I h => ?_⟩
  refine Subscript_ (thn (he.run pins s σ H _ I h) fun v s1 ⟨x, H1, I1, r1, q1⟩ => ?_)
  refine wpAny_Slice (thn (po_none.run pins s1 σ H1 (fun o H2 => o = none ∧ H2 = H1) I1 ⟨rfl, rfl⟩) fun vl s2 ⟨l, H2, I2, pl, el, e2⟩ => ?_)
  subst el e2
  refine thn (po_none.run pins s2 σ H2 (fun o H3 => o = none ∧ H3 = H2) I2 ⟨rfl, rfl⟩) fun vu s3 ⟨u, H3, I3, pu, eu, e3⟩ => ?_
  subst eu e3
  rw [evalPart_some]
  refine thn (hc.run pins s3 σ H3 _ I3 q1) fun vs s4 ⟨y, H4, I4, ry, q4⟩ => ?_
  rcases q4 with ⟨a, xs, rfl, hx, q4⟩ | ⟨a, xs, rfl, hx, rfl, q4⟩
  · cases (show v = Value.ref a from r1)
    have I5 : Inv X pins σ H4 { s4 with heap := s4.heap.push { cls := .type "slice", data := .fields #[vl, vu, vs] } } := I4.kept (t' := s4.toks) fun b ob q => Heap.get?_push_of_some _ q
    obtain ⟨its, r, ht, hz⟩ := I5.list hx
    have hlen := r.length
    show wpAny (model X.prog X.w) X.A (subscriptTail e (.Slice none none (some c) p3) (.ref a) (.ref s4.heap.objs.size)) (EP X pins σ Q) X.xe { s4 with heap := s4.heap.push { cls := .type "slice", data := .fields #[vl, vu, vs] } }
    refine tail_any (ops := [.ref a, .ref s4.heap.objs.size]) ht.isList.typeIs (PySem.slot_list_getitem.lookup) ?_ (hsub _ _)
    rcases q4 with ⟨rfl, q4⟩ | ⟨rfl, q4⟩
    · obtain ⟨t, rfl⟩ := (show ∃ t, vs = Value.int 1 t from ry)
      refine wpAny_getItem_list_slice ht.isList (Heap.IsSliceOf.new _ vl vu (.int 1 t)) pl pu (.int 1 t) (by decide) ?_ (by rw [List.size_toArray]; omega)
      rw [pick_one]
      refine ⟨.ref _, _, I5.laid (t' := s4.toks) (o := .lst xs) (fun b ob q => Heap.get?_push_of_some _ q) (Nat.le_refl _) ?_, rfl, q4 _ (I5.hok.fresh (Nat.le_refl _))⟩
      exact ⟨hz, _, 0, r, Heap.get?_push_size _ rfl⟩
    · obtain ⟨t, rfl⟩ := (show ∃ t, vs = Value.int (-1) t from ry)
      refine wpAny_getItem_list_slice ht.isList (Heap.IsSliceOf.new _ vl vu (.int (-1) t)) pl pu (.int (-1) t) (by decide) ?_ (by rw [List.size_toArray]; omega)
      rw [PySem.W.krv_pick]
      refine ⟨.ref _, _, I5.laid (t' := s4.toks) (o := .lst xs.reverse) (fun b ob q => Heap.get?_push_of_some _ q) (Nat.le_refl _) ?_, rfl, q4 _ (I5.hok.fresh (Nat.le_refl _))⟩
      exact ⟨by rw [List.length_reverse]; exact hz, _, 0, r.reverse, Heap.get?_push_size _ rfl⟩
  · cases (show v = Value.ref a from r1)
    have I5 : Inv X pins σ H4 { s4 with heap := s4.heap.push { cls := .type "slice", data := .fields #[vl, vu, vs] } } := I4.kept (t' := s4.toks) fun b ob q => Heap.get?_push_of_some _ q
    obtain ⟨its, r, ht, hz⟩ := I5.tuple hx
    have hlen := r.length
    show wpAny (model X.prog X.w) X.A (subscriptTail e (.Slice none none (some c) p3) (.ref a) (.ref s4.heap.objs.size)) (EP X pins σ Q) X.xe { s4 with heap := s4.heap.push { cls := .type "slice", data := .fields #[vl, vu, vs] } }
    refine tail_any (ops := [.ref a, .ref s4.heap.objs.size]) ht.typeIs (PyProof.Rows.slot_tuple_getitem.lookup) ?_ (hsub _ _)
    obtain ⟨t, rfl⟩ := (show ∃ t, vs = Value.int (-1) t from ry)
    refine getItem_tuple_rev ht (Heap.IsSliceOf.new _ vl vu (.int (-1) t)) pl pu (.int (-1) t) ?_ (by rw [List.size_toArray]; omega)
    refine ⟨.ref _, _, I5.laid (t' := s4.toks) (o := .tup xs.reverse) (fun b ob q => Heap.get?_push_of_some _ q) (Nat.le_refl _) ?_, rfl, q4 _ (I5.hok.fresh (Nat.le_refl _))⟩
    exact ⟨by rw [List.length_reverse]; exact hz, _, r.reverse, IsTup.new _ _⟩
@[simp] def dStepA (x y : D) (st : Sto) (R : DQ) : Prop := match dr st x, y with
  | .lst xs, .int c => (c = 1 ∧ R (.lst xs) st) ∨ (c = -1 ∧ R (.lst xs.reverse) st)
  | .tup xs, .int c => c = -1 ∧ R (.tup xs.reverse) st
  | _, _ => False
@[simp] def mSlStepA (we wc : ME) : ME := mOp dStepA we wc
theorem pd_slStepA {e c : Expr} {we wc : ME} {p3 pos : Pos} (he : PDE G E X e we) (hc : PDE G E X c wc) (hsub : ∀ o i, subscripted (.Slice none none (some c) p3) false o i = operate [o, i] (getItem o i) := by intro _ _; with_unfolding_all rfl) (hK : G.K = X.K := by rfl) : PDE G E X (.Subscript e (.Slice none none (some c) p3) pos) (mSlStepA we wc) :=
  PE.weak (pe_stepA he hc hsub) fun σ H Q h => by
    refine op_lift (r := rStepA X.K) ?_ h
    intro E W H st dx dy x y R xq Q rel rx ry w o
    rw [← hK]
    unfold dStepA at w
    split at w
    · rename_i xs i e
      obtain ⟨a, vs, rfl, h2, h3⟩ := dr_lst rel rx e
      refine .inl ⟨a, vs, rfl, SqL.of h2, ?_⟩
      rcases w with ⟨rfl, w⟩ | ⟨rfl, w⟩
      · exact .inl ⟨ry, fun p hp => o.rt W _ (.lst xs) _ st (Le.fresh hp) (rel.fresh hp) (newL rel hp h3) w⟩
      · exact .inr ⟨ry, fun p hp => o.rt W _ (.lst xs.reverse) _ st (Le.fresh hp) (rel.fresh hp) (newL rel hp h3.reverse) w⟩
    · rename_i xs i e
      obtain rfl := dr_tup e
      simp only [Rp] at rx
      obtain ⟨a, vs, rfl, h2, h3⟩ := rx
      obtain ⟨rfl, w⟩ := w
      exact .inr ⟨a, vs, rfl, h2.sq, ry, fun p hp => o.rt W _ (.tup xs.reverse) _ st (Le.fresh hp) (rel.fresh hp) (newT rel hp h3.reverse) w⟩
    · cases w
theorem mSlStepA_i {we wc : ME} {ρ : DEnv} {st : Sto} {R : DQ} {xq : XQ} (h : mOp dStepA we wc ρ st R xq) : mSlStepA we wc ρ st R xq := h
theorem dStepA_t {xs : List D} {st : Sto} {R : DQ} (h : R (.tup xs.reverse) st) : dStepA (.tup xs) (.int (-1)) st R := ⟨rfl, h⟩
theorem dStepA_l {xs : List D} {st : Sto} {R : DQ} (h : R (.lst xs.reverse) st) : dStepA (.lst xs) (.int (-1)) st R := .inr ⟨rfl, h⟩
end
end DL

set_option Elab.async false
set_option linter.all false
set_option maxRecDepth 100000
set_option autoImplicit false
set_option maxHeartbeats 4000000
namespace DL
open PySem PySem.Spec PyProof.Rows L2
/-! l.remove(k), of whole numbers -/
@[simp] def dRem : DM := fun x ds st R => match ds with
  | [.int k] => onH st x fun j xs => ∃ (ns : List Int) (i : Nat), xs = ns.map D.int ∧ ns[i]? = some k ∧ (∀ m : Nat, m < i → ns[m]? ≠ some k) ∧ R .non (st.set j (.lst ((ns.eraseIdx i).map D.int)))
  | _ => False
theorem md_rem {G : Gm} : MeD G rRemI dRem := by
  intro E W H st dx ds x vs R xq Q rel rx rs w o
  unfold dRem at w
  split at w
  · obtain ⟨v, rfl, rv⟩ := rpl1 rs
    simp only [Rp] at rv
    subst rv
    obtain ⟨j, a, xs, us, rfl, h1, h2, h3, ns, i, rfl, h5, h6, w⟩ := onH_of rel rx w
    have e := h3.ints
    subst e
    exact ⟨a, ns, _, i, rfl, rfl, h2, h5, h6, o.rt W _ .non _ _ (Le.write (rel.mem h1)) (wrL rel h1 (RpL.of_ints _)) rfl w⟩
  · cases w
theorem dRem_h {st : Sto} {R : DQ} {j : Nat} {ns : List Int} {k : Int} {i : Nat} (e : st[j]? = some (.lst (ns.map D.int))) (h1 : ns[i]? = some k) (h2 : ∀ m : Nat, m < i → ns[m]? ≠ some k) (h : R .non (st.set j (.lst ((ns.eraseIdx i).map D.int)))) : dRem (.hdl j) [.int k] st R := by
  simp only [dRem, onH_hdl e]; exact ⟨ns, i, rfl, h1, h2, h⟩
/-! sorted(xs), of whole numbers -/
@[simp] def dSortI : D1 := fun ds st R => match ds with
  | [d] => onL st d fun xs => ∃ ns, allI xs = some ns ∧ ∀ ys : List Int, ys.Perm ns → ys.Pairwise (· ≤ ·) → R (.lst (ys.map D.int)) st
  | _ => False
theorem cd_sortI {G : Gm} {X : Cx} (hK : G.K = X.K) : CaD G (rSortedI X.K) dSortI := by
  intro E W H st ds vs R xq Q rel rs w o
  rw [← hK]
  unfold dSortI at w
  split at w
  · obtain ⟨v, rfl, rv⟩ := rpl1 rs
    obtain ⟨a, vs, xs, rfl, h1, h2, ns, e, w⟩ := onL_of rel rv w
    exact ⟨a, ns, rfl, by rw [← allI_rp h2 e]; exact h1, fun ys p h4 h5 hp => o.rt W _ (.lst _) _ st (Le.fresh hp) (rel.fresh hp) (newL rel hp (RpL.of_ints ys)) (w ys h4 h5)⟩
  · cases w
theorem dSortI_l {st : Sto} {R : DQ} {xs : List D} {ns : List Int} (e : allI xs = some ns) (h : ∀ ys : List Int, ys.Perm ns → ys.Pairwise (· ≤ ·) → R (.lst (ys.map D.int)) st) : dSortI [.lst xs] st R := ⟨ns, e, h⟩
end DL

set_option Elab.async false
set_option linter.all false
set_option maxRecDepth 100000
set_option autoImplicit false
namespace DL
open PySem PySem.Spec PyProof.Rows L2
structure Cl where
  Bank : Addr
  t_RULES : Addr
  d_of_nothing : Addr
  d_of_marks : Addr
  d_of_truth : Addr
  d_of_truths : Addr
  d_of_alike : Addr
  d_of_less : Addr
  d_of_choice : Addr
  d_of_word : Addr
  d_of_words : Addr
  d_of_joined : Addr
  d_of_cut : Addr
  d_of_read : Addr
  d_of_written : Addr
/-! ## stores: what stays -/
/-- all cells but those of F are as they were -/
structure Fx (F : List Nat) (st st' : Sto) : Prop where
  len : st.length ≤ st'.length
  get : ∀ k, k < st.length → k ∉ F → st'[k]? = st[k]?
theorem Fx.refl {F : List Nat} {st : Sto} : Fx F st st := ⟨Nat.le_refl _, fun _ _ _ => rfl⟩
theorem Fx.trans {F F' : List Nat} {a b c : Sto} (h : Fx F a b) (h' : Fx F' b c) (s : ∀ k ∈ F', k ∈ F ∨ a.length ≤ k) : Fx F a c :=
  ⟨Nat.le_trans h.len h'.len, fun k hk hf => by
    rw [h'.get k (Nat.lt_of_lt_of_le hk h.len) (fun z => (s k z).elim hf (fun q => by omega)), h.get k hk hf]⟩
theorem Fx.mono {F F' : List Nat} {a b : Sto} (h : Fx F a b) (s : ∀ k ∈ F, k ∈ F') : Fx F' a b := ⟨h.len, fun k hk hf => h.get k hk fun z => hf (s k z)⟩
theorem Fx.set {F : List Nat} {a b : Sto} {j : Nat} {c : Cell} (h : Fx F a b) (hj : j ∈ F ∨ a.length ≤ j) : Fx F a (b.set j c) :=
  ⟨by rw [List.length_set]; exact h.len, fun k hk hf => by
    rw [List.getElem?_set_ne (fun z => by subst z; exact hj.elim hf (fun q => by omega))]; exact h.get k hk hf⟩
theorem Fx.app {F : List Nat} {a b : Sto} {c : Cell} (h : Fx F a b) : Fx F a (b ++ [c]) :=
  ⟨by rw [List.length_append]; have := h.len; omega, fun k hk hf => by
    rw [List.getElem?_append_left (Nat.lt_of_lt_of_le hk h.len)]; exact h.get k hk hf⟩
theorem Fx.at {F : List Nat} {a b : Sto} {j : Nat} {c : Cell} (h : Fx F a b) (e : a[j]? = some c) (hf : j ∉ F) : b[j]? = some c :=
  (h.get j (List.getElem?_eq_some_iff.mp e).1 hf).trans e
abbrev dIs (ns : List Int) : List D := ns.map D.int
/-! ## kinds -/
inductive Kd where | truth | word (n : Nat) | arr (p n : Nat)
  deriving DecidableEq
def Kd.its : Kd → List D
  | .truth => [.str "truth"]
  | .word n => [.str "word", .int n]
  | .arr p n => [.str "array", .int p, .int n]
def Kd.d (k : Kd) : D := .tup k.its
def Kd.nks : Kd → List NK
  | .truth => [.str "truth"]
  | .word n => [.str "word", .int n]
  | .arr p n => [.str "array", .int p, .int n]
def Kd.nk (k : Kd) : NK := .tup k.nks
def Kd.ok : Kd → Prop
  | .truth => True
  | .word n => 1 ≤ n ∧ n ≤ 8
  | .arr p n => 1 ≤ p ∧ p ≤ 3 ∧ 1 ≤ n ∧ n ≤ 8
/-- whole numbers, truths -/
def flatM : D → Bool | .int _ => true | .bl _ => true | _ => false
def optD : Option Kd → D | none => .non | some k => k.d
/-- a whole number within bounds, no truth -/
def isW : D → Int → Int → Bool
  | .int i, a, b => decide (a ≤ i) && decide (i ≤ b)
  | _, _, _ => false
def kNothing (ks : List Kd) (ms : List D) : Option Kd := if ks = [] ∧ ms.isEmpty = true then some .truth else none
def kMarks : List Kd → List D → Option Kd
  | [], [.int a, b] => if isW (.int a) 1 8 = true ∧ isW b 0 (2 ^ a.toNat - 1) = true then some (.word a.toNat) else none
  | _, _ => none
def kTruth (ks : List Kd) (ms : List D) : Option Kd := if ks = [.truth] ∧ ms.isEmpty = true then some .truth else none
def kTruths (ks : List Kd) (ms : List D) : Option Kd := if ks = [.truth, .truth] ∧ ms.isEmpty = true then some .truth else none
def kAlike : List Kd → List D → Option Kd
  | [a, b], ms => if a = b ∧ ms.isEmpty = true then some .truth else none
  | _, _ => none
def kWords : List Kd → List D → Option Kd
  | [.word n, b], ms => if .word n = b ∧ ms.isEmpty = true then some (.word n) else none
  | _, _ => none
def kLess (ks : List Kd) (ms : List D) : Option Kd := (kWords ks ms).map fun _ => .truth
def kChoice : List Kd → List D → Option Kd
  | [.truth, a, b], ms => if a = b ∧ ms.isEmpty = true then some a else none
  | _, _ => none
def kWord : List Kd → List D → Option Kd
  | [.word n], ms => if ms.isEmpty = true then some (.word n) else none
  | _, _ => none
def kJoined : List Kd → List D → Option Kd
  | [.word n, .word m], ms => if ms.isEmpty = true ∧ n + m ≤ 8 then some (.word (n + m)) else none
  | _, _ => none
def kCut : List Kd → List D → Option Kd
  | [.word n], [.int h, .int l] => if isW (.int h) 0 (n - 1) = true ∧ isW (.int l) 0 h = true then some (.word (h - l + 1).toNat) else none
  | _, _ => none
def kRead : List Kd → List D → Option Kd
  | [.arr p n, .word q], ms => if ms.isEmpty = true ∧ q = p then some (.word n) else none
  | _, _ => none
def kWritten : List Kd → List D → Option Kd
  | [.arr p n, .word q, .word r], ms => if ms.isEmpty = true ∧ q = p ∧ r = n then some (.arr p n) else none
  | _, _ => none
/-- the words of terms, each with its rule -/
def wordRules : List (Str × (List Kd → List D → Option Kd)) := [("true", kNothing), ("false", kNothing), ("number", kMarks), ("not", kTruth), ("and", kTruths), ("or", kTruths), ("same", kAlike), ("less", kLess), ("sless", kLess), ("choose", kChoice), ("flip", kWord), ("band", kWords),
  ("bor", kWords), ("bxor", kWords), ("add", kWords), ("sub", kWords), ("mul", kWords), ("div", kWords), ("rest", kWords), ("shl", kWords), ("shr", kWords), ("sar", kWords), ("join", kJoined), ("cut", kCut), ("read", kRead), ("write", kWritten)]
def ruleOf (w : Str) : Option (List Kd → List D → Option Kd) := wordRules.lookup w
def kindOf (w : Str) (ks : List Kd) (ms : List D) : Option Kd := (ruleOf w).bind fun g => g ks ms
/-! ## terms -/
inductive Nd where | nm (x : Str) (k : Kd) | ap (w : Str) (ps : List Nat) (ms : List Int)
  deriving DecidableEq
abbrev dNs (ps : List Nat) : List D := ps.map fun (n : Nat) => D.int (n : Int)
def Nd.its : Nd → List D
  | .nm x k => [.str "name", .tup [], .tup [.str x, k.d]]
  | .ap w ps ms => [.str w, .tup (dNs ps), .tup (dIs ms)]
def Nd.d (n : Nd) : D := .tup n.its
def Nd.nks : Nd → List NK
  | .nm x k => [.str "name", .tup [], .tup [.str x, k.nk]]
  | .ap w ps ms => [.str w, .tup (ps.map fun (n : Nat) => NK.int (n : Int)), .tup (ms.map NK.int)]
def Nd.nk (n : Nd) : NK := .tup n.nks
abbrev Ts := List (Nd × Kd)
def ndAt (ts : Ts) (i : Nat) : Option Nd := ts[i]?.map Prod.fst
def letterL : List Nat := [97, 98, 99, 100, 101, 102, 103, 104, 105, 106, 107, 108, 109, 110, 111, 112, 113, 114, 115, 116, 117, 118, 119, 120, 121, 122]
/-- a text that may be a name -/
def isNm (x : Str) : Bool := decide (1 ≤ x.length) && decide (x.length ≤ 8) && !(ruleOf x).isSome && !decide (x = "name") && !decide (x = "array") && x.cps.toList.all fun c => decide (c ∈ letterL)
def kindAt (ts : Ts) (i : Nat) : Kd := (ts[i]?.map (·.2)).getD .truth
def NdOk (ts : Ts) (i : Nat) : Nd × Kd → Prop
  | (.nm x k, k') => k' = k ∧ k.ok ∧ isNm x = true
  | (.ap w ps ms, k) => (∀ p ∈ ps, p < i) ∧ kindOf w (ps.map (kindAt ts)) (dIs ms) = some k ∧ k.ok
structure BankOk (ts : Ts) : Prop where
  len : ts.length ≤ 100000
  nd : (ts.map (·.1)).Nodup
  ok : ∀ i t, ts[i]? = some t → NdOk ts i t
  nms : ∀ i j x k k', ndAt ts i = some (Nd.nm x k) → ndAt ts j = some (Nd.nm x k') → i = j
def placedF : Nat → Ts → List (NK × D)
  | _, [] => []
  | i, t :: ts => (t.1.nk, .int i) :: placedF (i + 1) ts
def calledF : Nat → Ts → List (Key × D)
  | _, [] => []
  | i, (.nm x _, _) :: ts => (.inr x, .int i) :: calledF (i + 1) ts
  | i, (.ap _ _ _, _) :: ts => calledF (i + 1) ts
/-- where a bank's things stand -/
structure BH where
  b : Nat
  m : Nat
  s : Nat
  p : Nat
  q : Nat
def BH.fp (B : BH) : List Nat := [B.m, B.s, B.p, B.q]
/-- a bank's things: terms ts, names called as in tq -/
structure BankQ (c : Cl) (B : BH) (ts tq : Ts) (st : Sto) : Prop where
  obj : st[B.b]? = some (.ins c.Bank [(0, .hdl B.m), (1, .hdl B.s), (2, .hdl B.p), (3, .hdl B.q)])
  made : st[B.m]? = some (.lst (ts.map fun t => t.1.d))
  sorts : st[B.s]? = some (.lst (ts.map fun t => t.2.d))
  placed : st[B.p]? = some (.dN (placedF 0 ts))
  called : st[B.q]? = some (.dK (calledF 0 tq))
  nd : [B.b, B.m, B.s, B.p, B.q].Nodup
abbrev BankAt (c : Cl) (B : BH) (ts : Ts) (st : Sto) : Prop := BankQ c B ts ts st
theorem BankQ.fx {c : Cl} {B : BH} {ts tq : Ts} {st st' : Sto} {F : List Nat} (h : BankQ c B ts tq st) (f : Fx F st st') (hb : B.b ∉ F) (hf : ∀ k ∈ B.fp, k ∉ F) : BankQ c B ts tq st' :=
  ⟨f.at h.obj hb, f.at h.made (hf _ (by simp [BH.fp])), f.at h.sorts (hf _ (by simp [BH.fp])), f.at h.placed (hf _ (by simp [BH.fp])), f.at h.called (hf _ (by simp [BH.fp])), h.nd⟩
def nIx (n : Nd) : Ts → Option Nat
  | [] => none
  | t :: ts => if t.1 = n then some 0 else (nIx n ts).map (· + 1)
/-- a term put: its number, the terms then -/
def bput (ts : Ts) (n : Nd) (k : Kd) : Nat × Ts := match nIx n ts with
  | some i => (i, ts)
  | none => (ts.length, ts ++ [(n, k)])
/-- a list or a tuple, as data or at a handle that is not of F -/
def SeqA (F : List Nat) (st : Sto) (d : D) (xs : List D) : Prop := d = .lst xs ∨ d = .tup xs ∨ ∃ j, j ∉ F ∧ d = .hdl j ∧ st[j]? = some (.lst xs)
theorem SeqA.fx {F F' : List Nat} {st st' : Sto} {d : D} {xs : List D} (h : SeqA F st d xs) (f : Fx F' st st') (hs : ∀ k ∈ F', k ∈ F) : SeqA F st' d xs := by
  rcases h with h | h | ⟨j, h1, h2, h3⟩
  · exact .inl h
  · exact .inr (.inl h)
  · exact .inr (.inr ⟨j, h1, h2, f.at h3 fun z => h1 (hs j z)⟩)
/-! ## promises: the bank -/
def spis_whole (c : Cl) : DSp := fun ds st R xq => ∃ (d : D) (a b : Int), ds = [d, .int a, .int b] ∧ (tyD st d).isSome = true ∧ R (.bl (isW d a b)) st
def spas_kind (c : Cl) : DSp := fun ds st R xq => ∃ (d : D) (k : Kd), ds = [d] ∧ (d = k.d ∨ d = .lst k.its) ∧ k.ok ∧ R k.d st
def spRule (g : List Kd → List D → Option Kd) : DSp := fun ds st R xq => ∃ (ks : List Kd) (ms : List D), ds = [.lst (ks.map Kd.d), .tup ms] ∧ ms.all flatM = true ∧ R (optD (g ks ms)) st
def spof_nothing (c : Cl) : DSp := spRule kNothing
def spof_marks (c : Cl) : DSp := spRule kMarks
def spof_truth (c : Cl) : DSp := spRule kTruth
def spof_truths (c : Cl) : DSp := spRule kTruths
def spof_alike (c : Cl) : DSp := spRule kAlike
def spof_words (c : Cl) : DSp := spRule kWords
def spof_less (c : Cl) : DSp := spRule kLess
def spof_choice (c : Cl) : DSp := spRule kChoice
def spof_word (c : Cl) : DSp := spRule kWord
def spof_joined (c : Cl) : DSp := spRule kJoined
def spof_cut (c : Cl) : DSp := spRule kCut
def spof_read (c : Cl) : DSp := spRule kRead
def spof_written (c : Cl) : DSp := spRule kWritten
def spkind_by (c : Cl) : DSp := fun ds st R xq => ∃ (w : Str) (ks : List Kd) (ms : List D) (g : List Kd → List D → Option Kd), ds = [.str w, .lst (ks.map Kd.d), .tup ms] ∧ ruleOf w = some g ∧ ms.all flatM = true ∧ R (optD (g ks ms)) st
def spis_name (c : Cl) : DSp := fun ds st R xq => ∃ x : Str, ds = [.str x] ∧ x.length ≤ 1000 ∧ R (.bl (isNm x)) st
def spneed_term (c : Cl) : DSp := fun ds st R xq => ∃ (B : BH) (ts : Ts) (i : Nat), ds = [.hdl B.b, .int i] ∧ BankAt c B ts st ∧ i < ts.length ∧ R .non st
def spput_in (c : Cl) : DSp := fun ds st R xq => ∃ (B : BH) (ts tq : Ts) (n : Nd) (k : Kd), ds = [.hdl B.b, n.d, k.d] ∧ BankQ c B ts tq st ∧ ts.length < 100000 ∧ ∀ (i : Nat) (ts' : Ts) (st' : Sto), bput ts n k = (i, ts') → BankQ c B ts' tq st' → Fx B.fp st st' → R (.int i) st'
def spBank_DinitD (c : Cl) : DSp := fun ds st R xq => ∃ b : Nat, ds = [.hdl b] ∧ st[b]? = some (.ins c.Bank []) ∧ ∀ st', Fx [b] st st' → BankAt c ⟨b, st.length, st.length + 1, st.length + 2, st.length + 3⟩ [] st' → st'.length = st.length + 4 → R .non st'
def spBank_make (c : Cl) : DSp := fun ds st R xq => ∃ (B : BH) (ts : Ts) (w : Str) (dp dm : D) (ps : List Nat) (ms : List Int) (k : Kd), ds = [.hdl B.b, .str w, dp, dm] ∧ BankAt c B ts st ∧ BankOk ts ∧ ts.length < 100000 ∧ SeqA B.fp st dp (dNs ps) ∧ SeqA B.fp st dm (dIs ms) ∧ ps.length ≤ 1000 ∧ ms.length ≤ 1000 ∧
  (∀ p ∈ ps, p < ts.length) ∧ kindOf w (ps.map (kindAt ts)) (dIs ms) = some k ∧ ∀ (i : Nat) (ts' : Ts) (st' : Sto), bput ts (.ap w ps ms) k = (i, ts') → BankAt c B ts' st' → BankOk ts' → Fx B.fp st st' → R (.int i) st'
def spBank_name (c : Cl) : DSp := fun ds st R xq => ∃ (B : BH) (ts : Ts) (x : Str) (d : D) (k : Kd), ds = [.hdl B.b, .str x, d] ∧ (d = k.d ∨ d = .lst k.its) ∧ k.ok ∧ BankAt c B ts st ∧ BankOk ts ∧ ts.length < 100000 ∧ isNm x = true ∧ (∀ i k', ndAt ts i = some (Nd.nm x k') → k' = k) ∧
  ∀ (i : Nat) (ts' : Ts) (st' : Sto), bput ts (.nm x k) k = (i, ts') → BankAt c B ts' st' → BankOk ts' → Fx B.fp st st' → R (.int i) st'
def spBank_kind (c : Cl) : DSp := fun ds st R xq => ∃ (B : BH) (ts : Ts) (i : Nat), ds = [.hdl B.b, .int i] ∧ BankAt c B ts st ∧ i < ts.length ∧ R (kindAt ts i).d st
def spBank_node (c : Cl) : DSp := fun ds st R xq => ∃ (B : BH) (ts : Ts) (i : Nat) (t : Nd × Kd), ds = [.hdl B.b, .int i] ∧ BankAt c B ts st ∧ ts[i]? = some t ∧ R t.1.d st
def nmPairs : Ts → List (Str × D)
  | [] => []
  | (.nm x k, _) :: ts => (x, k.d) :: nmPairs ts
  | (.ap _ _ _, _) :: ts => nmPairs ts
def spBank_names (c : Cl) : DSp := fun ds st R xq => ∃ (B : BH) (ts : Ts), ds = [.hdl B.b] ∧ BankAt c B ts st ∧ BankOk ts ∧ R (.lst ((nmPairs ts).map pairD)) st

/-! ## promises: the draws' reel, a model of a bank -/
def SprC (n : Nat) (cell : Cell) : Prop := ∃ (gs ns : List Int) (k s : Int), cell = .lst [.lst (dIs gs), .lst (dIs ns), .int k, .int s] ∧ gs.length ≤ 63 ∧ (∀ g ∈ gs, 0 ≤ g) ∧ 1 ≤ ns.length ∧ ns.length ≤ 64 ∧ (∀ x ∈ ns, 0 ≤ x ∧ x < 1000003) ∧ 0 ≤ k ∧ k ≤ n ∧ 0 ≤ s ∧ s < 2 ^ 127
def Spr (st : Sto) (b n : Nat) : Prop := ∃ cell, st[b]? = some cell ∧ SprC n cell
/-- behind draws from the reel at b: at most n in all -/
structure SX (b : Nat) (st : Sto) (n : Nat) (st' : Sto) : Prop where
  fx : Fx [b] st st'
  spr : Spr st' b n
theorem Spr.lt {st : Sto} {b n : Nat} (h : Spr st b n) : b < st.length := let ⟨_, e, _⟩ := h; (List.getElem?_eq_some_iff.mp e).1
theorem SX.trans {b n m : Nat} {x y z : Sto} (h : SX b x n y) (h' : SX b y m z) : SX b x m z := ⟨h.fx.trans h'.fx fun k hk => .inl hk, h'.spr⟩
theorem Spr.mono {st : Sto} {b n m : Nat} (h : Spr st b n) (l : n ≤ m) : Spr st b m := by
  obtain ⟨cell, e, gs, ns, k, s, rfl, a1, a2, a3, a4, a5, a6, a7, a8, a9⟩ := h
  exact ⟨_, e, gs, ns, k, s, rfl, a1, a2, a3, a4, a5, a6, by omega, a8, a9⟩
theorem SX.mono {b n m : Nat} {x y : Sto} (h : SX b x n y) (l : n ≤ m) : SX b x m y := ⟨h.fx, h.spr.mono l⟩
theorem Spr.fx {st st' : Sto} {b n : Nat} {F : List Nat} (h : Spr st b n) (f : Fx F st st') (hb : b ∉ F) : Spr st' b n := let ⟨c, e, k⟩ := h; ⟨c, f.at e hb, k⟩
def sp_law_reel (c : Cl) : DSp := fun ds st R xq => ∃ ns : List Int, ds = [.scr (dIs ns)] ∧ ns.length ≤ 1000 ∧ ∀ cell, SprC 0 cell → R (.hdl st.length) (st ++ [cell])
def sp_law_draw (c : Cl) : DSp := fun ds st R xq => ∃ (b : Nat) (m : Int) (n : Nat), ds = [.hdl b, .int m] ∧ Spr st b n ∧ 0 < m ∧ m < 2 ^ 100 ∧ n + 1 < 2 ^ 60 ∧ ∀ (r : Int) (st' : Sto), 0 ≤ r → r < m → SX b st (n + 1) st' → st'.length = st.length → R (.int r) st'
/-- names, all unlike -/
structure NmsOk (xs : List Str) : Prop where
  ok : ∀ x ∈ xs, isNm x = true
  nd : xs.Nodup
/-- data whose parts are numbers, texts, truths, none: so deep at most -/
def flatA : D → Prop | .int _ => True | .str _ => True | .bl _ => True | .non => True | _ => False
def Pl : Nat → D → Prop
  | 0, d => flatA d
  | n + 1, d => flatA d ∨ ∃ ds, (d = .tup ds ∨ d = .lst ds) ∧ ds.length ≤ 200000 ∧ ∀ x ∈ ds, Pl n x
def spAlike (n : Nat) : DSp := fun ds st R xq => ∃ d, ds = [d, d] ∧ Pl n d ∧ R (.bl true) st
def sp_law_alikeR0 (c : Cl) : DSp := spAlike 0
def sp_law_alikeR1 (c : Cl) : DSp := spAlike 1
def sp_law_alikeR2 (c : Cl) : DSp := spAlike 2
def sp_law_alikeR3 (c : Cl) : DSp := spAlike 3
def sp_law_alikeR4 (c : Cl) : DSp := spAlike 4
def wordL : List Str := ["true", "false", "number", "not", "and", "or", "same", "less", "sless", "choose", "flip", "band", "bor", "bxor", "add", "sub", "mul", "div", "rest", "shl", "shr", "sar", "join", "cut", "read", "write"]
def sp_law_words (c : Cl) : DSp := fun ds st R xq => ds = [] ∧ R (.lst (wordL.map D.str)) st
def sp_law_array_kind (c : Cl) : DSp := fun ds st R xq => ∃ (w : Str) (ks : List Kd), ds = [.str w, .lst (ks.map Kd.d)] ∧ (w = "read" ∨ w = "write") ∧ ks.length ≤ 1000 ∧ ∀ st', Fx [] st st' → R (optD (kindOf w ks [])) st'
def sp_law_kind (c : Cl) : DSp := fun ds st R xq => ∃ (w : Str) (ks : List Kd) (ms : List Int), ds = [.str w, .lst (ks.map Kd.d), .tup (dIs ms)] ∧ w ∈ wordL ∧ (∀ k ∈ ks, k.ok) ∧ ks.length ≤ 1000 ∧ ms.length ≤ 1000 ∧ ∀ st', Fx [] st st' → R (optD (kindOf w ks (dIs ms))) st'
def nkP (p : Str × Kd) : D := .tup [.str p.1, p.2.d]
/-- there are words and arrays -/
def HasK (ks : List Kd) : Prop := (∃ n, Kd.word n ∈ ks) ∧ (∃ p n, Kd.arr p n ∈ ks)
def sp_law_names (c : Cl) : DSp := fun ds st R xq => ∃ (b n : Nat), ds = [.hdl b] ∧ Spr st b n ∧ n + 100 < 2 ^ 60 ∧ ∀ (xs : List (Str × Kd)) (h : Nat) (st' : Sto), xs.length = 7 → NmsOk (xs.map (·.1)) → (∀ p ∈ xs, p.2.ok) → HasK (xs.map (·.2)) → SX b st (n + 100) st' → st.length ≤ h → st'[h]? = some (.lst (xs.map nkP)) → R (.hdl h) st'
def nmT (p : Str × Kd) : Nd × Kd := (.nm p.1 p.2, p.2)
/-- a model of a bank: of what its terms are made, their kinds -/
structure MdAt (hm a k : Nat) (ts : Ts) (st : Sto) : Prop where
  top : st[hm]? = some (.lst [.hdl a, .hdl k])
  made : st[a]? = some (.lst (ts.map fun t => t.1.d))
  sorts : st[k]? = some (.lst (ts.map fun t => t.2.d))
  nd : hm ≠ a ∧ hm ≠ k ∧ a ≠ k
theorem MdAt.fx {hm a k : Nat} {ts : Ts} {st st' : Sto} {F : List Nat} (h : MdAt hm a k ts st) (f : Fx F st st') (h1 : hm ∉ F) (h2 : a ∉ F) (h3 : k ∉ F) : MdAt hm a k ts st' := ⟨f.at h.top h1, f.at h.made h2, f.at h.sorts h3, h.nd⟩
def sp_law_begun (c : Cl) : DSp := fun ds st R xq => ∃ (b n : Nat), ds = [.hdl b] ∧ Spr st b n ∧ n + 100 < 2 ^ 60 ∧ ∀ (xs : List (Str × Kd)) (hm a k : Nat) (st' : Sto), xs.length = 7 → NmsOk (xs.map (·.1)) → (∀ p ∈ xs, p.2.ok) → HasK (xs.map (·.2)) → SX b st (n + 100) st' → st.length ≤ hm → st.length ≤ a → st.length ≤ k → MdAt hm a k (xs.map nmT) st' → R (.hdl hm) st'
def optN : Option Nat → D | none => .non | some i => .int (i : Nat)
def sp_law_pick (c : Cl) : DSp := fun ds st R xq => ∃ (b n hm a k : Nat) (ts : Ts) (kd : Kd), ds = [.hdl b, .hdl hm, kd.d] ∧ Spr st b n ∧ n + 1 < 2 ^ 60 ∧ MdAt hm a k ts st ∧ ts.length ≤ 100000 ∧ ∀ (o : Option Nat) (st' : Sto), (∀ i, o = some i → i < ts.length ∧ kindAt ts i = kd) → SX b st (n + 1) st' → R (optN o) st'
def sp_law_needs (c : Cl) : DSp := fun ds st R xq => ∃ (b n hm a k : Nat) (ts : Ts) (w : Str), ds = [.hdl b, .hdl hm, .str w] ∧ Spr st b n ∧ n + 10 < 2 ^ 60 ∧ MdAt hm a k ts st ∧ ts.length ≤ 100000 ∧ b ≠ hm ∧ b ≠ a ∧ b ≠ k ∧ (∀ i, i < ts.length → (kindAt ts i).ok) ∧ HasK (ts.map (·.2)) ∧ ∀ (ks : List Kd) (st' : Sto), (∀ kd ∈ ks, kd.ok) → ks.length ≤ 3 → (w = "cut" → ∃ m, ks = [.word m]) → SX b st (n + 10) st' → R (.lst (ks.map Kd.d)) st'
def sp_law_marks (c : Cl) : DSp := fun ds st R xq => ∃ (b n : Nat) (w : Str) (ks : List Kd), ds = [.hdl b, .str w, .lst (ks.map Kd.d)] ∧ Spr st b n ∧ n + 10 < 2 ^ 60 ∧ (w = "cut" → ∃ m, 1 ≤ m ∧ m ≤ 8 ∧ ks = [.word m]) ∧ ∀ (ms : List Int) (st' : Sto), ms.length ≤ 2 → (w = "number" → ∃ kd, kindOf "number" [] (dIs ms) = some kd ∧ kd.ok) → SX b st (n + 10) st' → R (.tup (dIs ms)) st'
/-- texts that the model of Python can lay -/
def ndTxt : Nd → Prop | .nm x _ => isNm x = true | .ap w _ _ => w ∈ wordL
/-- a term that can be made -/
def Good (ts : Ts) (w : Str) (ps : List Nat) (ms : List Int) (kd : Kd) : Prop := w ∈ wordL ∧ (∀ p ∈ ps, p < ts.length) ∧ kindOf w (ps.map (kindAt ts)) (dIs ms) = some kd ∧ kd.ok ∧ ps.length ≤ 3 ∧ ms.length ≤ 2
def sp_law_good (c : Cl) : DSp := fun ds st R xq => ∃ (b n hm a k : Nat) (ts : Ts), ds = [.hdl b, .hdl hm] ∧ Spr st b n ∧ n + 100 < 2 ^ 60 ∧ MdAt hm a k ts st ∧ ts.length ≤ 100000 ∧ b ≠ hm ∧ b ≠ a ∧ b ≠ k ∧ (∀ i, i < ts.length → (kindAt ts i).ok) ∧ HasK (ts.map (·.2)) ∧ ∀ (w : Str) (ps : List Nat) (ms : List Int) (kd : Kd) (st' : Sto), Good ts w ps ms kd → SX b st (n + 100) st' → R (Nd.ap w ps ms).d st'
def sp_law_taken (c : Cl) : DSp := fun ds st R xq => ∃ (hm a k : Nat) (ts : Ts) (w : Str) (ps : List Nat) (ms : List Int) (kd : Kd), ds = [.hdl hm, (Nd.ap w ps ms).d] ∧ MdAt hm a k ts st ∧ ts.length < 100000 ∧ (∀ i, i < ts.length → (kindAt ts i).ok) ∧ (∀ t ∈ ts, ndTxt t.1) ∧ Good ts w ps ms kd ∧ ∀ (i : Nat) (ts' : Ts) (st' : Sto), bput ts (.ap w ps ms) kd = (i, ts') → MdAt hm a k ts' st' → Fx [a, k] st st' → R (.int (i : Nat)) st'
def sp_law_banked (c : Cl) : DSp := fun ds st R xq => ∃ (hm a k : Nat) (xs : List (Str × Kd)), ds = [.hdl hm] ∧ MdAt hm a k (xs.map nmT) st ∧ NmsOk (xs.map (·.1)) ∧ (∀ p ∈ xs, p.2.ok) ∧ xs.length ≤ 100 ∧ ∀ (B : BH) (st' : Sto), BankAt c B (xs.map nmT) st' → BankOk (xs.map nmT) → Fx [] st st' → st.length ≤ B.b → (∀ k ∈ B.fp, st.length ≤ k) → R (.hdl B.b) st'
def sp_law_stands (c : Cl) : DSp := fun ds st R xq => ∃ (B : BH) (hm a k : Nat) (ts : Ts), ds = [.hdl B.b, .hdl hm] ∧ BankAt c B ts st ∧ BankOk ts ∧ MdAt hm a k ts st ∧ ∀ st', Fx [] st st' → R (.bl true) st'
def spBank_DlenD (c : Cl) : DSp := fun ds st R xq => ∃ (B : BH) (ts : Ts), ds = [.hdl B.b] ∧ BankAt c B ts st ∧ ts.length ≤ 100000 ∧ R (.int (ts.length : Nat)) st

/-! ## promises: in any order -/
def ndParts : Nd → List Nat | .nm _ _ => [] | .ap _ ps _ => ps
/-- an order of all terms, each behind its parts -/
structure OrdOk (ts : Ts) (os : List Nat) : Prop where
  perm : os.Perm (List.range ts.length)
  ahead : ∀ (i t p : Nat) (n : Nd), os[i]? = some t → ndAt ts t = some n → p ∈ ndParts n → p ∈ os.take i
def sp_law_order (c : Cl) : DSp := fun ds st R xq => ∃ (b n hm a k : Nat) (ts : Ts), ds = [.hdl b, .hdl hm] ∧ Spr st b n ∧ n + 200 < 2 ^ 60 ∧ MdAt hm a k ts st ∧ BankOk ts ∧ ts.length ≤ 100 ∧ b ≠ hm ∧ b ≠ a ∧ b ≠ k ∧
  ∀ (os : List Nat) (h : Nat) (st' : Sto), OrdOk ts os → SX b st (n + 100) st' → st.length ≤ h → st'[h]? = some (.lst (dNs os)) → R (.hdl h) st'
def remap (m : Nat → Nat) : Nd → Nd | .nm x k => .nm x k | .ap w ps ms => .ap w (ps.map m) ms
/-- a step by which a term is put into a bank of terms S: its number there, the terms then -/
structure StepOk (ts S S' : Ts) (m : Nat → Nat) (t : Nat) : Prop where
  put : ∀ n kd, ts[t]? = some (n, kd) → bput S (remap m n) kd = (m t, S')
  nam : ∀ x k i k', ndAt ts t = some (.nm x k) → ndAt S i = some (.nm x k') → k' = k
  par : ∀ w ps ms kd, ts[t]? = some (.ap w ps ms, kd) → (∀ p ∈ ps, m p < S.length) ∧ kindOf w ((ps.map m).map (kindAt S)) (dIs ms) = some kd
def mapD (m : Nat → Nat) (os : List Nat) : List (Key × D) := os.map fun (t : Nat) => (Sum.inl (t : Int), D.int ((m t : Nat) : Int))
def sp_law_moved (c : Cl) : DSp := fun ds st R xq => ∃ (B : BH) (hm a k : Nat) (ts : Ts) (od : D) (os : List Nat) (S : Nat → Ts) (m : Nat → Nat), ds = [.hdl B.b, .hdl hm, od] ∧ BankAt c B (S 0) st ∧ BankOk (S 0) ∧ MdAt hm a k ts st ∧ BankOk ts ∧ ts.length ≤ 100 ∧ (hm ∉ B.fp ∧ a ∉ B.fp ∧ k ∉ B.fp) ∧
  OrdOk ts os ∧ SeqA B.fp st od (dNs os) ∧ (∀ i, (S i).length ≤ 200) ∧ (∀ i t, os[i]? = some t → StepOk ts (S i) (S (i + 1)) m t) ∧
  ∀ (h : Nat) (st' : Sto), BankAt c B (S os.length) st' → BankOk (S os.length) → Fx B.fp st st' → st.length ≤ h → st'[h]? = some (.dK (mapD m os)) → R (.hdl h) st'
def splaw (c : Cl) : DSp := fun ds st R xq => ∃ ns : List Int, ds = [.scr (dIs ns)] ∧ ns.length ≤ 1000 ∧ ∀ st', R (.bl true) st'

def tbRULES (c : Cl) : List (Str × Addr) := [("true", c.d_of_nothing), ("false", c.d_of_nothing), ("number", c.d_of_marks), ("not", c.d_of_truth), ("and", c.d_of_truths), ("or", c.d_of_truths), ("same", c.d_of_alike), ("less", c.d_of_less), ("sless", c.d_of_less), ("choose", c.d_of_choice), ("flip", c.d_of_word), ("band", c.d_of_words), ("bor", c.d_of_words), ("bxor", c.d_of_words), ("add", c.d_of_words), ("sub", c.d_of_words), ("mul", c.d_of_words), ("div", c.d_of_words), ("rest", c.d_of_words), ("shl", c.d_of_words), ("shr", c.d_of_words), ("sar", c.d_of_words), ("join", c.d_of_joined), ("cut", c.d_of_cut), ("read", c.d_of_read), ("write", c.d_of_written)]
def cbRULES (c : Cl) : List (Addr × DSp) := [(c.d_of_nothing, spof_nothing c), (c.d_of_marks, spof_marks c), (c.d_of_truth, spof_truth c), (c.d_of_truths, spof_truths c), (c.d_of_alike, spof_alike c), (c.d_of_less, spof_less c), (c.d_of_choice, spof_choice c), (c.d_of_word, spof_word c), (c.d_of_words, spof_words c), (c.d_of_joined, spof_joined c), (c.d_of_cut, spof_cut c), (c.d_of_read, spof_read c), (c.d_of_written, spof_written c)]
/-- is_whole -/
def wis_whole (c : Cl) : MS :=
  (sRt (mAndV (mCa dIsi (maCons (mVar 0) (maCons (mC (.raw (.ty "int"))) maNil))) (mAndV (mNotV (mCa dIsi (maCons (mVar 0) (maCons (mC (.raw (.ty "bool"))) maNil)))) (mChn dLe dLe (mVar 1) (mVar 0) (mVar 2)))))

/-- as_kind -/
def was_kind (c : Cl) : MS :=
  (sSeq (sIf (mNot (mTest (mCa (dIsiT ["tuple", "list"]) (maCons (mVar 0) (maCons (mTup (maCons (mC (.raw (.ty "tuple"))) (maCons (mC (.raw (.ty "list"))) maNil))) maNil)))))
  (sRt (mC .non))
  sNx)
  (sSeq (sIf (mTest (mOp (dEQ false) (mCa dTuple (maCons (mVar 0) maNil)) (mC (.tup [(.str "truth")]))))
  (sRt (mC (.tup [(.str "truth")])))
  sNx)
  (sSeq (sIf (mAnd (mTest (mOp (dEQ false) (mCa dLen (maCons (mVar 0) maNil)) (mC (.int 2)))) (mAnd (mTest (mOp (dEQ false) (mOp dIx (mVar 0) (mC (.int 0))) (mC (.str "word")))) (mTest (mCall (spis_whole c) (maCons (mOp dIx (mVar 0) (mC (.int 1))) (maCons (mC (.int 1)) (maCons (mC (.int 8)) maNil)))))))
  (sRt (mCa dTuple (maCons (mVar 0) maNil)))
  sNx)
  (sSeq (sIf (mOr (mTest (mOp (dEQ true) (mCa dLen (maCons (mVar 0) maNil)) (mC (.int 3)))) (mOr (mTest (mOp (dEQ true) (mOp dIx (mVar 0) (mC (.int 0))) (mC (.str "array")))) (mNot (mTest (mCall (spis_whole c) (maCons (mOp dIx (mVar 0) (mC (.int 1))) (maCons (mC (.int 1)) (maCons (mC (.int 3)) maNil))))))))
  (sRt (mC .non))
  sNx)
  (sRt (mIf (mTest (mCall (spis_whole c) (maCons (mOp dIx (mVar 0) (mC (.int 2))) (maCons (mC (.int 1)) (maCons (mC (.int 8)) maNil))))) (mCa dTuple (maCons (mVar 0) maNil)) (mC .non)))))))

/-- of_nothing -/
def wof_nothing (c : Cl) : MS :=
  (sRt (mIf (mAnd (mTest (mOp (dEQ false) (mVar 0) (mLst maNil))) (mTest (mOp (dEQ false) (mVar 1) (mTup maNil)))) (mC (.tup [(.str "truth")])) (mC .non)))

/-- of_marks -/
def wof_marks (c : Cl) : MS :=
  (sSeq (sIf (mOr (mTest (mOp (dEQ true) (mVar 0) (mLst maNil))) (mOr (mTest (mOp (dEQ true) (mCa dLen (maCons (mVar 1) maNil)) (mC (.int 2)))) (mNot (mTest (mCall (spis_whole c) (maCons (mOp dIx (mVar 1) (mC (.int 0))) (maCons (mC (.int 1)) (maCons (mC (.int 8)) maNil))))))))
  (sRt (mC .non))
  sNx)
  (sRt (mIf (mTest (mCall (spis_whole c) (maCons (mOp dIx (mVar 1) (mC (.int 1))) (maCons (mC (.int 0)) (maCons (mOp dSub (mOp dShl (mC (.int 1)) (mOp dIx (mVar 1) (mC (.int 0)))) (mC (.int 1))) maNil))))) (mTup (maCons (mC (.str "word")) (maCons (mOp dIx (mVar 1) (mC (.int 0))) maNil))) (mC .non))))

/-- of_truth -/
def wof_truth (c : Cl) : MS :=
  (sRt (mIf (mAnd (mTest (mOp (dEQ false) (mVar 0) (mLst (maCons (mC (.tup [(.str "truth")])) maNil)))) (mTest (mOp (dEQ false) (mVar 1) (mTup maNil)))) (mC (.tup [(.str "truth")])) (mC .non)))

/-- of_truths -/
def wof_truths (c : Cl) : MS :=
  (sRt (mIf (mAnd (mTest (mOp (dEQ false) (mVar 0) (mLst (maCons (mC (.tup [(.str "truth")])) (maCons (mC (.tup [(.str "truth")])) maNil))))) (mTest (mOp (dEQ false) (mVar 1) (mTup maNil)))) (mC (.tup [(.str "truth")])) (mC .non)))

/-- of_alike -/
def wof_alike (c : Cl) : MS :=
  (sRt (mIf (mAnd (mTest (mOp (dEQ false) (mCa dLen (maCons (mVar 0) maNil)) (mC (.int 2)))) (mAnd (mTest (mOp (dEQ false) (mOp dIx (mVar 0) (mC (.int 0))) (mOp dIx (mVar 0) (mC (.int 1))))) (mTest (mOp (dEQ false) (mVar 1) (mTup maNil))))) (mC (.tup [(.str "truth")])) (mC .non)))

/-- of_words -/
def wof_words (c : Cl) : MS :=
  (sSeq (sIf (mOr (mTest (mOp dIsN (mCall (spof_alike c) (maCons (mVar 0) (maCons (mVar 1) maNil))) (mC .non))) (mTest (mOp (dEQ true) (mOp dIx (mOp dIx (mVar 0) (mC (.int 0))) (mC (.int 0))) (mC (.str "word")))))
  (sRt (mC .non))
  sNx)
  (sRt (mOp dIx (mVar 0) (mC (.int 0)))))

/-- of_less -/
def wof_less (c : Cl) : MS :=
  (sRt (mIf (mTest (mOp dIsN (mCall (spof_words c) (maCons (mVar 0) (maCons (mVar 1) maNil))) (mC .non))) (mC .non) (mC (.tup [(.str "truth")]))))

/-- of_choice -/
def wof_choice (c : Cl) : MS :=
  (sSeq (sIf (mOr (mTest (mOp (dEQ true) (mSlA (mVar 0) moNone (moSome (mC (.int 1)))) (mLst (maCons (mC (.tup [(.str "truth")])) maNil)))) (mTest (mOp dIsN (mCall (spof_alike c) (maCons (mSlA (mVar 0) (moSome (mC (.int 1))) moNone) (maCons (mVar 1) maNil))) (mC .non))))
  (sRt (mC .non))
  sNx)
  (sRt (mOp dIx (mVar 0) (mC (.int 1)))))

/-- of_word -/
def wof_word (c : Cl) : MS :=
  (sRt (mIf (mAnd (mTest (mOp (dEQ false) (mCa dLen (maCons (mVar 0) maNil)) (mC (.int 1)))) (mAnd (mTest (mOp (dEQ false) (mOp dIx (mOp dIx (mVar 0) (mC (.int 0))) (mC (.int 0))) (mC (.str "word")))) (mTest (mOp (dEQ false) (mVar 1) (mTup maNil))))) (mOp dIx (mVar 0) (mC (.int 0))) (mC .non)))

/-- of_joined -/
def wof_joined (c : Cl) : MS :=
  (sSeq (sIf (mOr (mTest (mOp (dEQ true) (mCa dLen (maCons (mVar 0) maNil)) (mC (.int 2)))) (mOr (mTest (mOp (dEQ true) (mVar 1) (mTup maNil))) (mTest (mOp (dEQ true) (mLc (miSeq (mVar 0)) (.nm 3) (mTest (mOp (dEQ true) (mOp dIx (mVar 3) (mC (.int 0))) (mC (.str "word")))) (mVar 3) [3]) (mLst maNil)))))
  (sRt (mC .non))
  sNx)
  (sSeq (sAs (mOp dAddA (mOp dIx (mOp dIx (mVar 0) (mC (.int 0))) (mC (.int 1))) (mOp dIx (mOp dIx (mVar 0) (mC (.int 1))) (mC (.int 1)))) (gNm 2))
  (sRt (mIf (mTest (mOp dLE (mVar 2) (mC (.int 8)))) (mTup (maCons (mC (.str "word")) (maCons (mVar 2) maNil))) (mC .non)))))

/-- of_cut -/
def wof_cut (c : Cl) : MS :=
  (sSeq (sIf (mOr (mTest (mOp dIsN (mCall (spof_word c) (maCons (mVar 0) (maCons (mTup maNil) maNil))) (mC .non))) (mOr (mTest (mOp (dEQ true) (mCa dLen (maCons (mVar 1) maNil)) (mC (.int 2)))) (mNot (mTest (mCall (spis_whole c) (maCons (mOp dIx (mVar 1) (mC (.int 0))) (maCons (mC (.int 0)) (maCons (mOp dSub (mOp dIx (mOp dIx (mVar 0) (mC (.int 0))) (mC (.int 1))) (mC (.int 1))) maNil))))))))
  (sRt (mC .non))
  sNx)
  (sRt (mIf (mTest (mCall (spis_whole c) (maCons (mOp dIx (mVar 1) (mC (.int 1))) (maCons (mC (.int 0)) (maCons (mOp dIx (mVar 1) (mC (.int 0))) maNil))))) (mTup (maCons (mC (.str "word")) (maCons (mOp dAddA (mOp dSub (mOp dIx (mVar 1) (mC (.int 0))) (mOp dIx (mVar 1) (mC (.int 1)))) (mC (.int 1))) maNil))) (mC .non))))

/-- of_read -/
def wof_read (c : Cl) : MS :=
  (sSeq (sIf (mOr (mTest (mOp (dEQ true) (mCa dLen (maCons (mVar 0) maNil)) (mC (.int 2)))) (mOr (mTest (mOp (dEQ true) (mVar 1) (mTup maNil))) (mOr (mTest (mOp (dEQ true) (mOp dIx (mOp dIx (mVar 0) (mC (.int 0))) (mC (.int 0))) (mC (.str "array")))) (mTest (mOp (dEQ true) (mOp dIx (mVar 0) (mC (.int 1))) (mTup (maCons (mC (.str "word")) (maCons (mOp dIx (mOp dIx (mVar 0) (mC (.int 0))) (mC (.int 1))) maNil))))))))
  (sRt (mC .non))
  sNx)
  (sRt (mTup (maCons (mC (.str "word")) (maCons (mOp dIx (mOp dIx (mVar 0) (mC (.int 0))) (mC (.int 2))) maNil)))))

/-- of_written -/
def wof_written (c : Cl) : MS :=
  (sSeq (sIf (mOr (mTest (mOp dIsN (mCall (spof_read c) (maCons (mSlA (mVar 0) moNone (moSome (mC (.int 2)))) (maCons (mVar 1) maNil))) (mC .non))) (mTest (mOp (dEQ true) (mSlA (mVar 0) (moSome (mC (.int 2))) moNone) (mLst (maCons (mTup (maCons (mC (.str "word")) (maCons (mOp dIx (mOp dIx (mVar 0) (mC (.int 0))) (mC (.int 2))) maNil))) maNil)))))
  (sRt (mC .non))
  sNx)
  (sRt (mOp dIx (mVar 0) (mC (.int 0)))))

/-- kind_by -/
def wkind_by (c : Cl) : MS :=
  (sSeq (sAs (mOp (dIxKD c.t_RULES (tbRULES c)) (mC (.raw (.ref c.t_RULES))) (mVar 0)) (gNm 3))
  (sRt (mCallT 3 (cbRULES c) (maCons (mVar 1) (maCons (mVar 2) maNil)))))

/-- is_name -/
def wis_name (c : Cl) : MS :=
  (sSeq (sIf (mOr (mNot (mTest (mCa dIsi (maCons (mVar 0) (maCons (mC (.raw (.ty "str"))) maNil))))) (mNot (mTest (mChn dLe dLe (mC (.int 1)) (mCa dLen (maCons (mVar 0) maNil)) (mC (.int 8))))))
  (sRt (mC (.bl false)))
  sNx)
  (sSeq (sIf (mOr (mTest (mOp (dInKD c.t_RULES (tbRULES c) false) (mVar 0) (mC (.raw (.ref c.t_RULES))))) (mTest (mOp (dIN false) (mVar 0) (mTup (maCons (mC (.str "name")) (maCons (mC (.str "array")) maNil))))))
  (sRt (mC (.bl false)))
  sNx)
  (sRt (mCa dAll (maCons (mLc (miStr (mVar 0)) (.nm 1) mYes (mOp (dIN false) (mVar 1) (mC (.str "abcdefghijklmnopqrstuvwxyz"))) [1]) maNil)))))

/-- need_term -/
def wneed_term (c : Cl) : MS :=
  (sIf (mNot (mTest (mCall (spis_whole c) (maCons (mVar 1) (maCons (mC (.int 0)) (maCons (mOp dSub (mCa dLen (maCons (mFld c.Bank 0 (mVar 0)) maNil)) (mC (.int 1))) maNil))))))
  sNever
  sNx)

/-- put_in -/
def wput_in (c : Cl) : MS :=
  (sSeq (sIf (mTest (mOp (dInN true) (mVar 1) (mFld c.Bank 2 (mVar 0))))
  (sSeq (sAs (mCa dLen (maCons (mFld c.Bank 0 (mVar 0)) maNil)) (gSbN (mFld c.Bank 2 (mVar 0)) (mVar 1)))
  (sSeq (sEx (mMe dApp (mFld c.Bank 0 (mVar 0)) (maCons (mVar 1) maNil)))
  (sEx (mMe dApp (mFld c.Bank 1 (mVar 0)) (maCons (mVar 2) maNil)))))
  sNx)
  (sRt (mOp dIxN (mFld c.Bank 2 (mVar 0)) (mVar 1))))

/-- Bank.__init__ -/
def wBank_DinitD (c : Cl) : MS :=
  (sSeq (sSetFld c.Bank 0 (mVar 0) (mLstH maNil))
  (sSeq (sSetFld c.Bank 1 (mVar 0) (mLstH maNil))
  (sSeq (sSetFld c.Bank 2 (mVar 0) mDicN)
  (sSetFld c.Bank 3 (mVar 0) mDic))))

/-- Bank.make -/
def wBank_make (c : Cl) : MS :=
  (sSeq (sIf (mTest (mOp (dInKD c.t_RULES (tbRULES c) true) (mVar 1) (mC (.raw (.ref c.t_RULES)))))
  sNever
  sNx)
  (sSeq (sFor (miSeq (mVar 2)) (gNm 4)
  (sEx (mCall (spneed_term c) (maCons (mVar 0) (maCons (mVar 4) maNil)))))
  (sSeq (sAs (mCall (spkind_by c) (maCons (mVar 1) (maCons (mLc (miSeq (mVar 2)) (.nm 4) mYes (mOp dIx (mFld c.Bank 1 (mVar 0)) (mVar 4)) [4]) (maCons (mCa dTuple (maCons (mVar 3) maNil)) maNil)))) (gNm 5))
  (sSeq (sIf (mTest (mOp dIsN (mVar 5) (mC .non)))
  sNever
  sNx)
  (sRt (mCall (spput_in c) (maCons (mVar 0) (maCons (mTup (maCons (mVar 1) (maCons (mCa dTuple (maCons (mVar 2) maNil)) (maCons (mCa dTuple (maCons (mVar 3) maNil)) maNil)))) (maCons (mVar 5) maNil)))))))))

/-- Bank.name -/
def wBank_name (c : Cl) : MS :=
  (sSeq (sAs (mCall (spas_kind c) (maCons (mVar 2) maNil)) (gNm 3))
  (sSeq (sIf (mNot (mTest (mCall (spis_name c) (maCons (mVar 1) maNil))))
  sNever
  sNx)
  (sSeq (sIf (mTest (mOp dIsN (mVar 3) (mC .non)))
  sNever
  sNx)
  (sSeq (sIf (mAnd (mTest (mOp (dIN false) (mVar 1) (mFld c.Bank 3 (mVar 0)))) (mTest (mOp (dEQ true) (mOp dIx (mFld c.Bank 1 (mVar 0)) (mOp dIx (mFld c.Bank 3 (mVar 0)) (mVar 1))) (mVar 3))))
  sNever
  sNx)
  (sSeq (sAs (mCall (spput_in c) (maCons (mVar 0) (maCons (mTup (maCons (mC (.str "name")) (maCons (mTup maNil) (maCons (mTup (maCons (mVar 1) (maCons (mVar 3) maNil))) maNil)))) (maCons (mVar 3) maNil)))) (gSb (mFld c.Bank 3 (mVar 0)) (mVar 1)))
  (sRt (mOp dIx (mFld c.Bank 3 (mVar 0)) (mVar 1))))))))

/-- Bank.kind -/
def wBank_kind (c : Cl) : MS :=
  (sSeq (sEx (mCall (spneed_term c) (maCons (mVar 0) (maCons (mVar 1) maNil))))
  (sRt (mOp dIx (mFld c.Bank 1 (mVar 0)) (mVar 1))))

/-- Bank.node -/
def wBank_node (c : Cl) : MS :=
  (sSeq (sEx (mCall (spneed_term c) (maCons (mVar 0) (maCons (mVar 1) maNil))))
  (sRt (mOp dIx (mFld c.Bank 0 (mVar 0)) (mVar 1))))

/-- Bank.__len__ -/
def wBank_DlenD (c : Cl) : MS :=
  (sRt (mCa dLen (maCons (mFld c.Bank 0 (mVar 0)) maNil)))

/-- _law_reel -/
def w_law_reel (c : Cl) : MS :=
  (sSeq (sAs (mOp dPow (mC (.int 3)) (mC (.int 60))) (gNm 1))
  (sSeq (sFor (miSeq (mSlA (mVar 0) moNone (moSome (mC (.int 63))))) (gNm 2)
  (sAs (mOp dMod (mOp dAddA (mOp dAddA (mOp dMulA (mVar 1) (mVar 1)) (mOp dMod (mVar 2) (mC (.int 1000000000000000003)))) (mC (.int 11))) (mOp dSub (mOp dMulA (mOp dPow (mC (.int 2)) (mC (.int 64))) (mOp dPow (mC (.int 2)) (mC (.int 63)))) (mC (.int 1)))) (gNm 1)))
  (sSeq (sAs (mLc (miSeq (mSlA (mVar 0) moNone (moSome (mC (.int 63))))) (.nm 2) (mTest (mOp dGe (mVar 2) (mOp dPow (mC (.int 10)) (mC (.int 18))))) (mOp dSub (mVar 2) (mOp dPow (mC (.int 10)) (mC (.int 18)))) [2]) (gNm 3))
  (sRt (mLstH (maCons (mVar 3) (maCons (mOp dAddA (mLc (miSeq (mSlA (mVar 0) moNone (moSome (mC (.int 63))))) (.nm 2) mYes (mOp dMod (mVar 2) (mC (.int 1000003))) [2]) (mLst (maCons (mC (.int 41)) maNil))) (maCons (mC (.int 0)) (maCons (mVar 1) maNil)))))))))

/-- _law_draw -/
def w_law_draw (c : Cl) : MS :=
  (sSeq (sIf (mTest (mOp (dEQ true) (mOp dIx (mVar 0) (mC (.int 0))) (mLst maNil)))
  (sSeq (sAs (mOp dIx (mOp dIx (mVar 0) (mC (.int 0))) (mC (.int 0))) (gNm 4))
  (sSeq (sAs (mOp dAddA (mOp dMulA (mLst (maCons (mOp dDiv (mVar 4) (mVar 1)) maNil)) (mCa dInt (maCons (mOp dGe (mVar 4) (mVar 1)) maNil))) (mSlA (mOp dIx (mVar 0) (mC (.int 0))) (moSome (mC (.int 1))) moNone)) (gSb (mVar 0) (mC (.int 0))))
  (sRt (mOp dMod (mVar 4) (mVar 1)))))
  sNx)
  (sSeq (sAs (mOp dAddA (mOp dIx (mVar 0) (mC (.int 2))) (mC (.int 1))) (gSb (mVar 0) (mC (.int 2))))
  (sSeq (sAs (mOp dIx (mOp dIx (mVar 0) (mC (.int 1))) (mOp dMod (mOp dIx (mVar 0) (mC (.int 2))) (mCa dLen (maCons (mOp dIx (mVar 0) (mC (.int 1))) maNil)))) (gNm 2))
  (sSeq (sAs (mOp dAddA (mOp dAddA (mOp dMulA (mOp dIx (mVar 0) (mC (.int 3))) (mOp dIx (mVar 0) (mC (.int 3)))) (mOp dMulA (mOp dAddA (mVar 2) (mC (.int 7))) (mC (.int 69621)))) (mOp dMulA (mOp dIx (mVar 0) (mC (.int 2))) (mC (.int 1000003)))) (gNm 3))
  (sSeq (sAs (mOp dMod (mVar 3) (mOp dSub (mOp dMulA (mOp dPow (mC (.int 2)) (mC (.int 64))) (mOp dPow (mC (.int 2)) (mC (.int 63)))) (mC (.int 1)))) (gSb (mVar 0) (mC (.int 3))))
  (sRt (mOp dMod (mOp dDiv (mOp dIx (mVar 0) (mC (.int 3))) (mOp dPow (mC (.int 2)) (mC (.int 40)))) (mVar 1))))))))

/-- _law_words -/
def w_law_words (c : Cl) : MS :=
  (sSeq (sAs (mLst (maCons (mC (.str "true")) (maCons (mC (.str "false")) (maCons (mC (.str "number")) (maCons (mC (.str "not")) (maCons (mC (.str "and")) (maCons (mC (.str "or")) (maCons (mC (.str "same")) (maCons (mC (.str "less")) (maCons (mC (.str "sless")) (maCons (mC (.str "choose")) (maCons (mC (.str "flip")) (maCons (mC (.str "band")) (maCons (mC (.str "bor")) maNil)))))))))))))) (gNm 0))
  (sSeq (sAs (mOp dAddA (mVar 0) (mLst (maCons (mC (.str "bxor")) (maCons (mC (.str "add")) (maCons (mC (.str "sub")) (maCons (mC (.str "mul")) (maCons (mC (.str "div")) (maCons (mC (.str "rest")) (maCons (mC (.str "shl")) (maCons (mC (.str "shr")) (maCons (mC (.str "sar")) (maCons (mC (.str "join")) (maCons (mC (.str "cut")) (maCons (mC (.str "read")) (maCons (mC (.str "write")) maNil))))))))))))))) (gNm 0))
  (sRt (mVar 0))))

/-- _law_array_kind -/
def w_law_array_kind (c : Cl) : MS :=
  (sSeq (sIf (mOr (mTest (mOp (dEQ false) (mVar 1) (mLst maNil))) (mTest (mOp (dEQ true) (mOp dIx (mOp dIx (mVar 1) (mC (.int 0))) (mC (.int 0))) (mC (.str "array")))))
  (sRt (mC .non))
  sNx)
  (sSeq (sAs (mLstH (maCons (mTup (maCons (mC (.str "word")) (maCons (mOp dIx (mOp dIx (mVar 1) (mC (.int 0))) (mC (.int 1))) maNil))) maNil)) (gNm 2))
  (sSeq (sIf (mTest (mOp (dEQ false) (mVar 0) (mC (.str "write"))))
  (sEx (mMe dApp (mVar 2) (maCons (mTup (maCons (mC (.str "word")) (maCons (mOp dIx (mOp dIx (mVar 1) (mC (.int 0))) (mC (.int 2))) maNil))) maNil)))
  sNx)
  (sSeq (sIf (mTest (mOp (dEQ true) (mSlA (mVar 1) (moSome (mC (.int 1))) moNone) (mVar 2)))
  (sRt (mC .non))
  sNx)
  (sRt (mIf (mTest (mOp (dEQ false) (mVar 0) (mC (.str "read")))) (mTup (maCons (mC (.str "word")) (maCons (mOp dIx (mOp dIx (mVar 1) (mC (.int 0))) (mC (.int 2))) maNil))) (mOp dIx (mVar 1) (mC (.int 0)))))))))

/-- _law_names -/
def w_law_names (c : Cl) : MS :=
  (sSeq (sAs (mOp dIx (mLst (maCons (mC (.int 1)) (maCons (mC (.int 2)) (maCons (mC (.int 3)) (maCons (mC (.int 4)) (maCons (mC (.int 8)) (maCons (mOp dAddA (mC (.int 1)) (mCall (sp_law_draw c) (maCons (mVar 0) (maCons (mC (.int 8)) maNil)))) maNil))))))) (mCall (sp_law_draw c) (maCons (mVar 0) (maCons (mC (.int 6)) maNil)))) (gNm 1))
  (sSeq (sAs (mOp dAddA (mC (.int 1)) (mCall (sp_law_draw c) (maCons (mVar 0) (maCons (mC (.int 3)) maNil)))) (gNm 2))
  (sSeq (sAs (mOp dIx (mLst (maCons (mVar 1) (maCons (mOp dAddA (mC (.int 1)) (mCall (sp_law_draw c) (maCons (mVar 0) (maCons (mC (.int 8)) maNil)))) maNil))) (mCall (sp_law_draw c) (maCons (mVar 0) (maCons (mC (.int 2)) maNil)))) (gNm 3))
  (sSeq (sAs (mLst (maCons (mTup (maCons (mC (.str "p")) (maCons (mTup (maCons (mC (.str "truth")) maNil)) maNil))) (maCons (mTup (maCons (mC (.str "q")) (maCons (mTup (maCons (mC (.str "truth")) maNil)) maNil))) (maCons (mTup (maCons (mC (.str "x")) (maCons (mTup (maCons (mC (.str "word")) (maCons (mVar 1) maNil))) maNil))) (maCons (mTup (maCons (mC (.str "xy")) (maCons (mTup (maCons (mC (.str "word")) (maCons (mVar 1) maNil))) maNil))) maNil))))) (gNm 4))
  (sSeq (sAs (mOp dAddA (mVar 4) (mLst (maCons (mTup (maCons (mC (.str "m")) (maCons (mTup (maCons (mC (.str "array")) (maCons (mVar 2) (maCons (mVar 3) maNil)))) maNil))) (maCons (mTup (maCons (mC (.str "i")) (maCons (mTup (maCons (mC (.str "word")) (maCons (mVar 2) maNil))) maNil))) (maCons (mTup (maCons (mC (.str "d")) (maCons (mTup (maCons (mC (.str "word")) (maCons (mVar 3) maNil))) maNil))) maNil))))) (gNm 4))
  (sSeq (sAs (mLstH maNil) (gNm 5))
  (sSeq (sAs (mOp (dEQ false) (mCall (sp_law_draw c) (maCons (mVar 0) (maCons (mC (.int 4)) maNil))) (mC (.int 0))) (gNm 6))
  (sSeq (sFor (miSeq (mVar 4)) (gTp 2 (gsCons (gNm 7) (gsCons (gNm 8) gsNil)))
  (sSeq (sAs (mOp dIx (mLst (maCons (mC (.str "")) (maCons (mC (.str "")) (maCons (mC (.str "a")) (maCons (mC (.str "orb")) (maCons (mC (.str "notes")) (maCons (mC (.str "abcdef")) maNil))))))) (mCall (sp_law_draw c) (maCons (mVar 0) (maCons (mC (.int 6)) maNil)))) (gNm 9))
  (sEx (mMe dApp (mVar 5) (maCons (mTup (maCons (mIf (mTest (mVar 6)) (mOp dAddA (mC (.str "abcdefg")) (mOp dIx (mVar 7) (mUn dNeg (mC (.int 1))))) (mOp dAddA (mVar 7) (mVar 9))) (maCons (mVar 8) maNil))) maNil)))))
  (sRt (mVar 5))))))))))

/-- _law_begun -/
def w_law_begun (c : Cl) : MS :=
  (sSeq (sAs (mCall (sp_law_names c) (maCons (mVar 0) maNil)) (gNm 1))
  (sRt (mLstH (maCons (mLcH (miSeq (mVar 1)) (.nm 2) mYes (mTup (maCons (mC (.str "name")) (maCons (mTup maNil) (maCons (mVar 2) maNil)))) [2]) (maCons (mLcH (miSeq (mVar 1)) (.tp [(.nm 3), (.nm 4)]) mYes (mVar 4) [3, 4]) maNil)))))

/-- _law_pick -/
def w_law_pick (c : Cl) : MS :=
  (sSeq (sAs (mLc (miR1 (maCons (mCa dLen (maCons (mOp dIx (mVar 1) (mC (.int 1))) maNil)) maNil)) (.nm 4) (mTest (mOp (dEQ false) (mOp dIx (mOp dIx (mVar 1) (mC (.int 1))) (mVar 4)) (mVar 2))) (mVar 4) [4]) (gNm 3))
  (sRt (mIf (mTest (mOp (dEQ true) (mVar 3) (mLst maNil))) (mOp dIx (mVar 3) (mCall (sp_law_draw c) (maCons (mVar 0) (maCons (mCa dLen (maCons (mVar 3) maNil)) maNil)))) (mC .non))))

/-- _law_needs -/
def w_law_needs (c : Cl) : MS :=
  (sSeq (sAs (mTup (maCons (mC (.str "truth")) maNil)) (gNm 3))
  (sSeq (sAs (mOp dIx (mVar 1) (mC (.int 1))) (gNm 4))
  (sSeq (sAs (mOp dIx (mVar 4) (mCall (sp_law_draw c) (maCons (mVar 0) (maCons (mCa dLen (maCons (mVar 4) maNil)) maNil)))) (gNm 5))
  (sSeq (sAs (mLc (miSeq (mVar 4)) (.nm 10) (mTest (mOp (dEQ false) (mOp dIx (mVar 10) (mC (.int 0))) (mC (.str "word")))) (mVar 10) [10]) (gNm 6))
  (sSeq (sAs (mLc (miSeq (mVar 4)) (.nm 10) (mTest (mOp (dEQ false) (mOp dIx (mVar 10) (mC (.int 0))) (mC (.str "array")))) (mVar 10) [10]) (gNm 7))
  (sSeq (sAs (mOp dIx (mVar 6) (mCall (sp_law_draw c) (maCons (mVar 0) (maCons (mCa dLen (maCons (mVar 6) maNil)) maNil)))) (gNm 8))
  (sSeq (sAs (mOp dIx (mVar 7) (mCall (sp_law_draw c) (maCons (mVar 0) (maCons (mCa dLen (maCons (mVar 7) maNil)) maNil)))) (gNm 9))
  (sSeq (sIf (mTest (mOp (dIN false) (mVar 2) (mTup (maCons (mC (.str "true")) (maCons (mC (.str "false")) (maCons (mC (.str "number")) maNil))))))
  (sRt (mLst maNil))
  sNx)
  (sSeq (sIf (mTest (mOp (dIN false) (mVar 2) (mTup (maCons (mC (.str "not")) (maCons (mC (.str "and")) (maCons (mC (.str "or")) maNil))))))
  (sRt (mOp dMulA (mLst (maCons (mVar 3) maNil)) (mOp dAddA (mC (.int 1)) (mCa dInt (maCons (mOp (dEQ true) (mVar 2) (mC (.str "not"))) maNil)))))
  sNx)
  (sSeq (sIf (mOr (mTest (mOp (dEQ false) (mVar 2) (mC (.str "same")))) (mTest (mOp (dEQ false) (mVar 2) (mC (.str "choose")))))
  (sRt (mOp dAddA (mSlA (mLst (maCons (mVar 3) maNil)) moNone (moSome (mCa dInt (maCons (mOp (dEQ false) (mVar 2) (mC (.str "choose"))) maNil)))) (mLst (maCons (mVar 5) (maCons (mVar 5) maNil)))))
  sNx)
  (sSeq (sIf (mOr (mTest (mOp (dEQ false) (mVar 2) (mC (.str "flip")))) (mTest (mOp (dEQ false) (mVar 2) (mC (.str "cut")))))
  (sRt (mLst (maCons (mVar 8) maNil)))
  sNx)
  (sSeq (sIf (mTest (mOp (dEQ false) (mVar 2) (mC (.str "join"))))
  (sRt (mLst (maCons (mVar 8) (maCons (mOp dIx (mVar 6) (mCall (sp_law_draw c) (maCons (mVar 0) (maCons (mCa dLen (maCons (mVar 6) maNil)) maNil)))) maNil))))
  sNx)
  (sSeq (sIf (mOr (mTest (mOp (dEQ false) (mVar 2) (mC (.str "read")))) (mTest (mOp (dEQ false) (mVar 2) (mC (.str "write")))))
  (sRt (mSlA (mLst (maCons (mVar 9) (maCons (mTup (maCons (mC (.str "word")) (maCons (mOp dIx (mVar 9) (mC (.int 1))) maNil))) (maCons (mTup (maCons (mC (.str "word")) (maCons (mOp dIx (mVar 9) (mC (.int 2))) maNil))) maNil)))) moNone (moSome (mOp dAddA (mC (.int 2)) (mCa dInt (maCons (mOp (dEQ false) (mVar 2) (mC (.str "write"))) maNil))))))
  sNx)
  (sRt (mLst (maCons (mVar 8) (maCons (mVar 8) maNil)))))))))))))))))

/-- _law_marks -/
def w_law_marks (c : Cl) : MS :=
  (sSeq (sIf (mTest (mOp (dEQ false) (mVar 1) (mC (.str "number"))))
  (sSeq (sAs (mOp dIx (mLst (maCons (mOp dAddA (mC (.int 1)) (mCall (sp_law_draw c) (maCons (mVar 0) (maCons (mC (.int 8)) maNil)))) (maCons (mC (.int 2)) maNil))) (mCall (sp_law_draw c) (maCons (mVar 0) (maCons (mC (.int 2)) maNil)))) (gNm 3))
  (sRt (mTup (maCons (mVar 3) (maCons (mCall (sp_law_draw c) (maCons (mVar 0) (maCons (mOp dShl (mC (.int 1)) (mVar 3)) maNil))) maNil)))))
  sNx)
  (sSeq (sIf (mTest (mOp (dEQ false) (mVar 1) (mC (.str "cut"))))
  (sSeq (sAs (mCall (sp_law_draw c) (maCons (mVar 0) (maCons (mOp dIx (mOp dIx (mVar 2) (mC (.int 0))) (mC (.int 1))) maNil))) (gNm 4))
  (sRt (mTup (maCons (mVar 4) (maCons (mCall (sp_law_draw c) (maCons (mVar 0) (maCons (mOp dAddA (mVar 4) (mC (.int 1))) maNil))) maNil)))))
  sNx)
  (sRt (mTup maNil))))

/-- _law_banked -/
def w_law_banked (c : Cl) : MS :=
  (sSeq (sAs (mMake c.Bank (spBank_DinitD c) maNil) (gNm 1))
  (sSeq (sFor (miSeq (mOp dIx (mVar 0) (mC (.int 0)))) (gTp 3 (gsCons (gNm 2) (gsCons (gNm 3) (gsCons (gNm 4) gsNil))))
  (sEx (mMeth c.Bank (spBank_name c) (mVar 1) (maCons (mOp dIx (mVar 4) (mC (.int 0))) (maCons (mOp dIx (mVar 4) (mC (.int 1))) maNil)))))
  (sRt (mVar 1))))

/-- _law_order -/
def w_law_order (c : Cl) : MS :=
  (sSeq (sAs (mLstRH (mCa dLen (maCons (mOp dIx (mVar 1) (mC (.int 0))) maNil))) (gNm 2))
  (sSeq (sAs (mLstH maNil) (gNm 3))
  (sSeq (sWh (mTest (mOp (dEQ true) (mVar 2) (mLst maNil)))
  (sSeq (sAs (mLc (miSeq (mVar 2)) (.nm 5) (mTest (mOp (dEQ false) (mLc (miSeq (mOp dIx (mOp dIx (mOp dIx (mVar 1) (mC (.int 0))) (mVar 5)) (mC (.int 1)))) (.nm 6) (mTest (mOp (dIN false) (mVar 6) (mVar 2))) (mVar 6) [6]) (mLst maNil))) (mVar 5) [5]) (gNm 4))
  (sSeq (sEx (mMe dApp (mVar 3) (maCons (mOp dIx (mVar 4) (mCall (sp_law_draw c) (maCons (mVar 0) (maCons (mCa dLen (maCons (mVar 4) maNil)) maNil)))) maNil)))
  (sEx (mMe dRem (mVar 2) (maCons (mOp dIx (mVar 3) (mUn dNeg (mC (.int 1)))) maNil))))))
  (sRt (mVar 3)))))

/-- _law_moved -/
def w_law_moved (c : Cl) : MS :=
  (sSeq (sAs mDic (gNm 3))
  (sSeq (sFor (miSeq (mVar 2)) (gNm 4)
  (sSeq (sAs (mOp dIx (mOp dIx (mVar 1) (mC (.int 0))) (mVar 4)) (gTp 3 (gsCons (gNm 5) (gsCons (gNm 6) (gsCons (gNm 7) gsNil)))))
  (sIf (mTest (mOp (dEQ false) (mVar 5) (mC (.str "name"))))
  (sAs (mMeth c.Bank (spBank_name c) (mVar 0) (maCons (mOp dIx (mVar 7) (mC (.int 0))) (maCons (mOp dIx (mVar 7) (mC (.int 1))) maNil))) (gSb (mVar 3) (mVar 4)))
  (sAs (mMethG c.Bank 3 1 [] [] (spBank_make c) (mVar 0) (maCons (mVar 5) (maCons (mLc (miSeq (mVar 6)) (.nm 8) mYes (mOp dIx (mVar 3) (mVar 8)) [8]) maNil)) (maCons (mVar 7) maNil)) (gSb (mVar 3) (mVar 4))))))
  (sRt (mVar 3))))

/-- _law_kind -/
def w_law_kind (c : Cl) : MS :=
  (sSeq (sAs (mCa dLen (maCons (mVar 1) maNil)) (gNm 3))
  (sSeq (sAs (mLc (miSeq (mVar 1)) (.nm 7) (mTest (mOp (dEQ false) (mOp dIx (mVar 7) (mC (.int 0))) (mC (.str "word")))) (mOp dIx (mVar 7) (mC (.int 1))) [7]) (gNm 4))
  (sSeq (sAs (mTup (maCons (mC (.str "truth")) maNil)) (gNm 5))
  (sSeq (sIf (mTest (mOp (dEQ false) (mVar 0) (mC (.str "number"))))
  (sSeq (sAs (mAndV (mOp (dEQ false) (mVar 3) (mC (.int 0))) (mAndV (mOp (dEQ false) (mCa dLen (maCons (mVar 2) maNil)) (mC (.int 2))) (mAndV (mChn dLe dLe (mC (.int 1)) (mOp dIx (mVar 2) (mC (.int 0))) (mC (.int 8))) (mChn dLe dLt (mC (.int 0)) (mOp dIx (mVar 2) (mC (.int 1))) (mOp dShl (mC (.int 1)) (mCa dMax2 (maCons (mC (.int 0)) (maCons (mCa dMin2 (maCons (mC (.int 8)) (maCons (mOp dIx (mVar 2) (mC (.int 0))) maNil))) maNil)))))))) (gNm 6))
  (sRt (mIf (mTest (mVar 6)) (mTup (maCons (mC (.str "word")) (maCons (mOp dIx (mVar 2) (mC (.int 0))) maNil))) (mC .non))))
  sNx)
  (sSeq (sIf (mTest (mOp (dEQ false) (mVar 0) (mC (.str "cut"))))
  (sSeq (sAs (mAndV (mOp (dEQ false) (mVar 3) (mC (.int 1))) (mAndV (mOp (dEQ true) (mVar 4) (mLst maNil)) (mAndV (mOp (dEQ false) (mCa dLen (maCons (mVar 2) maNil)) (mC (.int 2))) (mChn3 dLe dLe dLt (mC (.int 0)) (mOp dIx (mVar 2) (mC (.int 1))) (mOp dIx (mVar 2) (mC (.int 0))) (mOp dIx (mOp dAddA (mVar 4) (mLst (maCons (mC (.int 0)) maNil))) (mC (.int 0))))))) (gNm 6))
  (sRt (mIf (mTest (mVar 6)) (mTup (maCons (mC (.str "word")) (maCons (mOp dAddA (mOp dSub (mOp dIx (mVar 2) (mC (.int 0))) (mOp dIx (mVar 2) (mC (.int 1)))) (mC (.int 1))) maNil))) (mC .non))))
  sNx)
  (sSeq (sIf (mTest (mOp (dEQ true) (mVar 2) (mTup maNil)))
  (sRt (mC .non))
  sNx)
  (sSeq (sIf (mTest (mOp (dIN false) (mVar 0) (mTup (maCons (mC (.str "true")) (maCons (mC (.str "false")) (maCons (mC (.str "not")) (maCons (mC (.str "and")) (maCons (mC (.str "or")) maNil))))))))
  (sRt (mIf (mTest (mOp (dEQ false) (mVar 1) (mOp dMulA (mLst (maCons (mVar 5) maNil)) (mGet2 (mDisp [((mC (.str "true")), (mC (.int 0))), ((mC (.str "false")), (mC (.int 0))), ((mC (.str "not")), (mC (.int 1)))]) (mVar 0) (mC (.int 2)))))) (mVar 5) (mC .non)))
  sNx)
  (sSeq (sIf (mTest (mOp (dEQ false) (mVar 0) (mC (.str "same"))))
  (sRt (mIf (mAnd (mTest (mOp (dEQ false) (mVar 3) (mC (.int 2)))) (mTest (mOp (dEQ false) (mOp dIx (mVar 1) (mC (.int 0))) (mOp dIx (mVar 1) (mC (.int 1)))))) (mVar 5) (mC .non)))
  sNx)
  (sSeq (sIf (mTest (mOp (dEQ false) (mVar 0) (mC (.str "choose"))))
  (sRt (mIf (mAnd (mTest (mOp (dEQ false) (mVar 3) (mC (.int 3)))) (mAnd (mTest (mOp (dEQ false) (mOp dIx (mVar 1) (mC (.int 0))) (mVar 5))) (mTest (mOp (dEQ false) (mOp dIx (mVar 1) (mC (.int 1))) (mOp dIx (mVar 1) (mC (.int 2))))))) (mOp dIx (mVar 1) (mC (.int 1))) (mC .non)))
  sNx)
  (sSeq (sIf (mOr (mTest (mOp (dEQ false) (mVar 0) (mC (.str "read")))) (mTest (mOp (dEQ false) (mVar 0) (mC (.str "write")))))
  (sRt (mCall (sp_law_array_kind c) (maCons (mVar 0) (maCons (mVar 1) maNil))))
  sNx)
  (sSeq (sIf (mTest (mOp (dEQ false) (mVar 0) (mC (.str "flip"))))
  (sRt (mIf (mAnd (mTest (mOp (dEQ false) (mVar 3) (mC (.int 1)))) (mTest (mOp (dEQ false) (mCa dLen (maCons (mVar 4) maNil)) (mC (.int 1))))) (mOp dIx (mVar 1) (mC (.int 0))) (mC .non)))
  sNx)
  (sSeq (sIf (mOr (mTest (mOp (dEQ true) (mVar 3) (mC (.int 2)))) (mTest (mOp (dEQ true) (mCa dLen (maCons (mVar 4) maNil)) (mC (.int 2)))))
  (sRt (mC .non))
  sNx)
  (sSeq (sIf (mTest (mOp (dEQ false) (mVar 0) (mC (.str "join"))))
  (sRt (mIf (mTest (mOp dLt (mCa dSum (maCons (mVar 4) maNil)) (mC (.int 9)))) (mTup (maCons (mC (.str "word")) (maCons (mCa dSum (maCons (mVar 4) maNil)) maNil))) (mC .non)))
  sNx)
  (sSeq (sIf (mTest (mOp (dEQ true) (mOp dIx (mVar 4) (mC (.int 0))) (mOp dIx (mVar 4) (mC (.int 1)))))
  (sRt (mC .non))
  sNx)
  (sRt (mIf (mTest (mOp (dIN false) (mVar 0) (mTup (maCons (mC (.str "less")) (maCons (mC (.str "sless")) maNil))))) (mVar 5) (mOp dIx (mVar 1) (mC (.int 0)))))))))))))))))))

/-- _law_good -/
def w_law_good (c : Cl) : MS :=
  (sSeq (sAs (mOp dIx (mCall (sp_law_words c) maNil) (mCall (sp_law_draw c) (maCons (mVar 0) (maCons (mC (.int 26)) maNil)))) (gNm 2))
  (sSeq (sAs (mCall (sp_law_needs c) (maCons (mVar 0) (maCons (mVar 1) (maCons (mVar 2) maNil)))) (gNm 3))
  (sSeq (sAs (mLc (miSeq (mVar 3)) (.nm 6) mYes (mCall (sp_law_pick c) (maCons (mVar 0) (maCons (mVar 1) (maCons (mVar 6) maNil)))) [6]) (gNm 4))
  (sSeq (sAs (mCall (sp_law_marks c) (maCons (mVar 0) (maCons (mVar 2) (maCons (mVar 3) maNil)))) (gNm 5))
  (sSeq (sIf (mOr (mTest (mOp (dIN false) (mC .non) (mVar 4))) (mTest (mOp dIsN (mCall (sp_law_kind c) (maCons (mVar 2) (maCons (mVar 3) (maCons (mVar 5) maNil)))) (mC .non))))
  (sRt (mTup (maCons (mC (.str "number")) (maCons (mTup maNil) (maCons (mCall (sp_law_marks c) (maCons (mVar 0) (maCons (mC (.str "number")) (maCons (mLst maNil) maNil)))) maNil)))))
  sNx)
  (sRt (mTup (maCons (mVar 2) (maCons (mCa dTuple (maCons (mVar 4) maNil)) (maCons (mVar 5) maNil))))))))))

/-- _law_taken -/
def w_law_taken (c : Cl) : MS :=
  (sSeq (sIf (mTest (mOp (dIND true) (mVar 1) (mOp dIx (mVar 0) (mC (.int 0)))))
  (sSeq (sEx (mMe dApp (mOp dIx (mVar 0) (mC (.int 0))) (maCons (mVar 1) maNil)))
  (sEx (mMe dApp (mOp dIx (mVar 0) (mC (.int 1))) (maCons (mCall (sp_law_kind c) (maCons (mOp dIx (mVar 1) (mC (.int 0))) (maCons (mLc (miSeq (mOp dIx (mVar 1) (mC (.int 1)))) (.nm 2) mYes (mOp dIx (mOp dIx (mVar 0) (mC (.int 1))) (mVar 2)) [2]) (maCons (mOp dIx (mVar 1) (mC (.int 2))) maNil)))) maNil))))
  sNx)
  (sRt (mMe dIdxD (mOp dIx (mVar 0) (mC (.int 0))) (maCons (mVar 1) maNil))))

/-- law -/
def wlaw (c : Cl) : MS :=
  (sSeq (sAs (mCall (sp_law_reel c) (maCons (mVar 0) maNil)) (gNm 1))
  (sSeq (sAs (mCall (sp_law_begun c) (maCons (mVar 1) maNil)) (gNm 2))
  (sSeq (sAs (mCall (sp_law_banked c) (maCons (mVar 2) maNil)) (gNm 3))
  (sSeq (sFor (miR1 (maCons (mOp dAddA (mC (.int 8)) (mCa dMin2 (maCons (mCa dLen (maCons (mVar 0) maNil)) (maCons (mC (.int 40)) maNil)))) maNil)) (gNm 4)
  (sSeq (sAs (mCall (sp_law_good c) (maCons (mVar 1) (maCons (mVar 2) maNil))) (gNm 9))
  (sIf (mTest (mOp (dEQ true) (mMethG c.Bank 3 1 [] [] (spBank_make c) (mVar 3) (maCons (mOp dIx (mVar 9) (mC (.int 0))) (maCons (mOp dIx (mVar 9) (mC (.int 1))) maNil)) (maCons (mOp dIx (mVar 9) (mC (.int 2))) maNil)) (mCall (sp_law_taken c) (maCons (mVar 2) (maCons (mVar 9) maNil)))))
  (sRt (mC (.bl false)))
  sNx)))
  (sSeq (sAs (mMake c.Bank (spBank_DinitD c) maNil) (gNm 5))
  (sSeq (sAs (mCall (sp_law_moved c) (maCons (mVar 5) (maCons (mVar 2) (maCons (mCall (sp_law_order c) (maCons (mVar 1) (maCons (mVar 2) maNil))) maNil)))) (gNm 6))
  (sSeq (sIf (mOr (mTest (mOp (dEQ true) (mCa (dLenO c.Bank (spBank_DlenD c)) (maCons (mVar 5) maNil)) (mCa (dLenO c.Bank (spBank_DlenD c)) (maCons (mVar 3) maNil)))) (mTest (mOp (dEQ true) (mCa dSortI (maCons (mLockE (mLc (miKF (mVar 6)) (.nm 7) mYes (mOp dIxF (mVar 6) (mVar 7)) [7])) maNil)) (mLstR (mCa (dLenO c.Bank (spBank_DlenD c)) (maCons (mVar 3) maNil))))))
  (sRt (mC (.bl false)))
  sNx)
  (sSeq (sFor (miR1 (maCons (mCa (dLenO c.Bank (spBank_DlenD c)) (maCons (mVar 3) maNil)) maNil)) (gNm 7)
  (sSeq (sAs (mMeth c.Bank (spBank_node c) (mVar 3) (maCons (mVar 7) maNil)) (gTp 3 (gsCons (gNm 10) (gsCons (gNm 11) (gsCons (gNm 12) gsNil)))))
  (sSeq (sIf (mTest (mOp (dEQ true) (mMeth c.Bank (spBank_node c) (mVar 5) (maCons (mOp dIx (mVar 6) (mVar 7)) maNil)) (mTup (maCons (mVar 10) (maCons (mCa dTuple (maCons (mLc (miSeq (mVar 11)) (.nm 13) mYes (mOp dIx (mVar 6) (mVar 13)) [13]) maNil)) (maCons (mVar 12) maNil))))))
  (sRt (mC (.bl false)))
  sNx)
  (sIf (mTest (mOp (dEQ true) (mMeth c.Bank (spBank_kind c) (mVar 5) (maCons (mOp dIx (mVar 6) (mVar 7)) maNil)) (mMeth c.Bank (spBank_kind c) (mVar 3) (maCons (mVar 7) maNil))))
  (sRt (mC (.bl false)))
  sNx))))
  (sSeq (sAs (mCall (sp_law_moved c) (maCons (mVar 3) (maCons (mVar 2) (maCons (mLstR (mCa (dLenO c.Bank (spBank_DlenD c)) (maCons (mVar 3) maNil))) maNil)))) (gNm 8))
  (sRt (mOp (dEQ false) (mLockE (mLc (miKF (mVar 8)) (.nm 7) (mTest (mOp (dEQ true) (mOp dIxF (mVar 8) (mVar 7)) (mVar 7))) (mVar 7) [7])) (mLst maNil))))))))))))

abbrev NBank : List Str := ["made", "sorts", "placed", "called"]
structure ClD (G : Gm) (mg : Str → Option Value) (c : Cl) : Prop where
  Bank : ClsD G c.Bank NBank
  g_TRUTH : GlD G mg "TRUTH" (.tup [(.str "truth")])
  g_MOST_BITS : GlD G mg "MOST_BITS" (.int 8)
  g_MOST_PLACES : GlD G mg "MOST_PLACES" (.int 3)
  g_MOST_LETTERS : GlD G mg "MOST_LETTERS" (.int 8)
  g_LETTERS : GlD G mg "LETTERS" (.str "abcdefghijklmnopqrstuvwxyz")
  g_RULES : GlD G mg "RULES" (.raw (.ref c.t_RULES))
  t_RULES : TabD G c.t_RULES (tbRULES c)
def topS (i : Nat) : Stmt := PySem.Challenge.pw_pushproof_k07_whole_in_any_order.main.body.getD i (.Pass ⟨0, 0, 0, 0⟩)

structure Bl (mg : Str → Option Value) : Prop where
  b_all : mg "all" = none
  b_bool : mg "bool" = none
  b_int : mg "int" = none
  b_isinstance : mg "isinstance" = none
  b_len : mg "len" = none
  b_list : mg "list" = none
  b_max : mg "max" = none
  b_min : mg "min" = none
  b_range : mg "range" = none
  b_sorted : mg "sorted" = none
  b_str : mg "str" = none
  b_sum : mg "sum" = none
  b_tuple : mg "tuple" = none

abbrev stis_whole : Stmt := topS 14
theorem scis_whole : FnScope ["thing", "least", "most"] ["thing", "least", "most"] (defScope stis_whole) := ⟨rfl, rfl, rfl, by decide +kernel, rfl, by decide +kernel, by decide +kernel⟩
set_option maxHeartbeats 4000000 in
theorem deis_whole {P : Program} {w : World} {G : Gm} {mg : Str → Option Value} {base : Heap} {c : Cl} (hW : G.w = w) (B : Bl mg) (T : ClD G mg c)  {f : Addr} (cdv : Value) (A : Around) (outer : List Env) (s : Shared) (H : Hp) (E : XK) (hr : Room 0 (A.deeper (envOfC "is_whole" (defScope stis_whole) s.heap.objs.size f cdv)))  :
    PDSs G E (cxOf CX0 P w G.K mg base ["thing", "least", "most"] "is_whole" (defScope stis_whole) f cdv A outer s H E).nox (defBody stis_whole) (wis_whole c) :=
  (sds_one (sd_ret (pd_and (pd_callB call_ISI (cd_isi rfl) B.b_isinstance (by decide +kernel) (ma_cons (pd_var 0) (ma_cons (pd_ty B.b_int (by decide +kernel)) ma_nil))) (pd_and (pd_not (pd_callB call_ISI (cd_isi rfl) B.b_isinstance (by decide +kernel) (ma_cons (pd_var 0) (ma_cons (pd_ty B.b_bool (by decide +kernel)) ma_nil)))) (pd_one (pd_chn op_le od_le op_le od_le (pd_var 1) (pd_var 0) (pd_var 2)))))))
abbrev stas_kind : Stmt := topS 15
theorem scas_kind : FnScope ["thing"] ["thing"] (defScope stas_kind) := ⟨rfl, rfl, rfl, by decide +kernel, rfl, by decide +kernel, by decide +kernel⟩
set_option maxHeartbeats 4000000 in
theorem deas_kind {P : Program} {w : World} {G : Gm} {mg : Str → Option Value} {base : Heap} {c : Cl} (hW : G.w = w) (B : Bl mg) (T : ClD G mg c) (Fis_whole : Cal P w G mg base 1 "is_whole" (spis_whole c)) {f : Addr} (cdv : Value) (A : Around) (outer : List Env) (s : Shared) (H : Hp) (E : XK) (hr : Room 1 (A.deeper (envOfC "as_kind" (defScope stas_kind) s.heap.objs.size f cdv)))  :
    PDSs G E (cxOf CX0 P w G.K mg base ["thing"] "as_kind" (defScope stas_kind) f cdv A outer s H E).nox (defBody stas_kind) (was_kind c) :=
  (sds_cons (sd_if (pt_not (pt_val (pd_callB call_isiQ (cd_isiT rfl) B.b_isinstance (by decide +kernel) (ma_cons (pd_var 0) (ma_cons (pd_tup (ma_cons (pd_ty B.b_tuple (by decide +kernel)) (ma_cons (pd_ty B.b_list (by decide +kernel)) ma_nil))) ma_nil)))))
  (sds_one (sd_ret pd_non))
  sds_nil)
  (sds_cons (sd_if (pt_eq hr.units (pd_callTy call_TUPLE (cd_tuple rfl) B.b_tuple (by decide +kernel) (ma_cons (pd_var 0) ma_nil)) (pd_glb T.g_TRUTH))
  (sds_one (sd_ret (pd_glb T.g_TRUTH)))
  sds_nil)
  (sds_cons (sd_if (pt_w (pw_and (pt_eq hr.units (pd_callB call_LEN (cd_len rfl) B.b_len (by decide +kernel) (ma_cons (pd_var 0) ma_nil)) pd_int) (pw_and (pt_eq hr.units (pd_ix (hu_of hr) (pd_var 0) pd_int) pd_str) (pw_and1 (pt_val (pd_callC Fis_whole (hr.mono (by decide)) (ma_cons (pd_ix (hu_of hr) (pd_var 0) pd_int) (ma_cons pd_int (ma_cons (pd_glb T.g_MOST_BITS) ma_nil)))))))))
  (sds_one (sd_ret (pd_callTy call_TUPLE (cd_tuple rfl) B.b_tuple (by decide +kernel) (ma_cons (pd_var 0) ma_nil))))
  sds_nil)
  (sds_cons (sd_if (pt_w (pw_or (pt_ne hr.units (pd_callB call_LEN (cd_len rfl) B.b_len (by decide +kernel) (ma_cons (pd_var 0) ma_nil)) pd_int) (pw_or (pt_ne hr.units (pd_ix (hu_of hr) (pd_var 0) pd_int) pd_str) (pw_or1 (pt_not (pt_val (pd_callC Fis_whole (hr.mono (by decide)) (ma_cons (pd_ix (hu_of hr) (pd_var 0) pd_int) (ma_cons pd_int (ma_cons (pd_glb T.g_MOST_PLACES) ma_nil))))))))))
  (sds_one (sd_ret pd_non))
  sds_nil)
  (sds_one (sd_ret (pd_if (pt_val (pd_callC Fis_whole (hr.mono (by decide)) (ma_cons (pd_ix (hu_of hr) (pd_var 0) pd_int) (ma_cons pd_int (ma_cons (pd_glb T.g_MOST_BITS) ma_nil))))) (pd_callTy call_TUPLE (cd_tuple rfl) B.b_tuple (by decide +kernel) (ma_cons (pd_var 0) ma_nil)) pd_non)))))))
abbrev stof_nothing : Stmt := topS 16
theorem scof_nothing : FnScope ["kinds", "marks"] ["kinds", "marks"] (defScope stof_nothing) := ⟨rfl, rfl, rfl, by decide +kernel, rfl, by decide +kernel, by decide +kernel⟩
set_option maxHeartbeats 4000000 in
theorem deof_nothing {P : Program} {w : World} {G : Gm} {mg : Str → Option Value} {base : Heap} {c : Cl} (hW : G.w = w) (B : Bl mg) (T : ClD G mg c)  {f : Addr} (cdv : Value) (A : Around) (outer : List Env) (s : Shared) (H : Hp) (E : XK) (hr : Room 0 (A.deeper (envOfC "of_nothing" (defScope stof_nothing) s.heap.objs.size f cdv)))  :
    PDSs G E (cxOf CX0 P w G.K mg base ["kinds", "marks"] "of_nothing" (defScope stof_nothing) f cdv A outer s H E).nox (defBody stof_nothing) (wof_nothing c) :=
  (sds_one (sd_ret (pd_if (pt_w (pw_and (pt_eq hr.units (pd_var 0) (pd_lst ma_nil)) (pw_and1 (pt_eq hr.units (pd_var 1) (pd_tup ma_nil))))) (pd_glb T.g_TRUTH) pd_non)))
abbrev stof_marks : Stmt := topS 17
theorem scof_marks : FnScope ["kinds", "marks"] ["kinds", "marks"] (defScope stof_marks) := ⟨rfl, rfl, rfl, by decide +kernel, rfl, by decide +kernel, by decide +kernel⟩
set_option maxHeartbeats 4000000 in
theorem deof_marks {P : Program} {w : World} {G : Gm} {mg : Str → Option Value} {base : Heap} {c : Cl} (hW : G.w = w) (B : Bl mg) (T : ClD G mg c) (Fis_whole : Cal P w G mg base 1 "is_whole" (spis_whole c)) {f : Addr} (cdv : Value) (A : Around) (outer : List Env) (s : Shared) (H : Hp) (E : XK) (hr : Room 1 (A.deeper (envOfC "of_marks" (defScope stof_marks) s.heap.objs.size f cdv)))  :
    PDSs G E (cxOf CX0 P w G.K mg base ["kinds", "marks"] "of_marks" (defScope stof_marks) f cdv A outer s H E).nox (defBody stof_marks) (wof_marks c) :=
  (sds_cons (sd_if (pt_w (pw_or (pt_ne hr.units (pd_var 0) (pd_lst ma_nil)) (pw_or (pt_ne hr.units (pd_callB call_LEN (cd_len rfl) B.b_len (by decide +kernel) (ma_cons (pd_var 1) ma_nil)) pd_int) (pw_or1 (pt_not (pt_val (pd_callC Fis_whole (hr.mono (by decide)) (ma_cons (pd_ix (hu_of hr) (pd_var 1) pd_int) (ma_cons pd_int (ma_cons (pd_glb T.g_MOST_BITS) ma_nil))))))))))
  (sds_one (sd_ret pd_non))
  sds_nil)
  (sds_one (sd_ret (pd_if (pt_val (pd_callC Fis_whole (hr.mono (by decide)) (ma_cons (pd_ix (hu_of hr) (pd_var 1) pd_int) (ma_cons pd_int (ma_cons (pd_op op_sub od_sub (pd_op op_shl od_shl pd_int (pd_ix (hu_of hr) (pd_var 1) pd_int)) pd_int) ma_nil))))) (pd_tup (ma_cons pd_str (ma_cons (pd_ix (hu_of hr) (pd_var 1) pd_int) ma_nil))) pd_non))))
abbrev stof_truth : Stmt := topS 18
theorem scof_truth : FnScope ["kinds", "marks"] ["kinds", "marks"] (defScope stof_truth) := ⟨rfl, rfl, rfl, by decide +kernel, rfl, by decide +kernel, by decide +kernel⟩
set_option maxHeartbeats 4000000 in
theorem deof_truth {P : Program} {w : World} {G : Gm} {mg : Str → Option Value} {base : Heap} {c : Cl} (hW : G.w = w) (B : Bl mg) (T : ClD G mg c)  {f : Addr} (cdv : Value) (A : Around) (outer : List Env) (s : Shared) (H : Hp) (E : XK) (hr : Room 0 (A.deeper (envOfC "of_truth" (defScope stof_truth) s.heap.objs.size f cdv)))  :
    PDSs G E (cxOf CX0 P w G.K mg base ["kinds", "marks"] "of_truth" (defScope stof_truth) f cdv A outer s H E).nox (defBody stof_truth) (wof_truth c) :=
  (sds_one (sd_ret (pd_if (pt_w (pw_and (pt_eq hr.units (pd_var 0) (pd_lst (ma_cons (pd_glb T.g_TRUTH) ma_nil))) (pw_and1 (pt_eq hr.units (pd_var 1) (pd_tup ma_nil))))) (pd_glb T.g_TRUTH) pd_non)))
abbrev stof_truths : Stmt := topS 19
theorem scof_truths : FnScope ["kinds", "marks"] ["kinds", "marks"] (defScope stof_truths) := ⟨rfl, rfl, rfl, by decide +kernel, rfl, by decide +kernel, by decide +kernel⟩
set_option maxHeartbeats 4000000 in
theorem deof_truths {P : Program} {w : World} {G : Gm} {mg : Str → Option Value} {base : Heap} {c : Cl} (hW : G.w = w) (B : Bl mg) (T : ClD G mg c)  {f : Addr} (cdv : Value) (A : Around) (outer : List Env) (s : Shared) (H : Hp) (E : XK) (hr : Room 0 (A.deeper (envOfC "of_truths" (defScope stof_truths) s.heap.objs.size f cdv)))  :
    PDSs G E (cxOf CX0 P w G.K mg base ["kinds", "marks"] "of_truths" (defScope stof_truths) f cdv A outer s H E).nox (defBody stof_truths) (wof_truths c) :=
  (sds_one (sd_ret (pd_if (pt_w (pw_and (pt_eq hr.units (pd_var 0) (pd_lst (ma_cons (pd_glb T.g_TRUTH) (ma_cons (pd_glb T.g_TRUTH) ma_nil)))) (pw_and1 (pt_eq hr.units (pd_var 1) (pd_tup ma_nil))))) (pd_glb T.g_TRUTH) pd_non)))
abbrev stof_alike : Stmt := topS 20
theorem scof_alike : FnScope ["kinds", "marks"] ["kinds", "marks"] (defScope stof_alike) := ⟨rfl, rfl, rfl, by decide +kernel, rfl, by decide +kernel, by decide +kernel⟩
set_option maxHeartbeats 4000000 in
theorem deof_alike {P : Program} {w : World} {G : Gm} {mg : Str → Option Value} {base : Heap} {c : Cl} (hW : G.w = w) (B : Bl mg) (T : ClD G mg c)  {f : Addr} (cdv : Value) (A : Around) (outer : List Env) (s : Shared) (H : Hp) (E : XK) (hr : Room 0 (A.deeper (envOfC "of_alike" (defScope stof_alike) s.heap.objs.size f cdv)))  :
    PDSs G E (cxOf CX0 P w G.K mg base ["kinds", "marks"] "of_alike" (defScope stof_alike) f cdv A outer s H E).nox (defBody stof_alike) (wof_alike c) :=
  (sds_one (sd_ret (pd_if (pt_w (pw_and (pt_eq hr.units (pd_callB call_LEN (cd_len rfl) B.b_len (by decide +kernel) (ma_cons (pd_var 0) ma_nil)) pd_int) (pw_and (pt_eq hr.units (pd_ix (hu_of hr) (pd_var 0) pd_int) (pd_ix (hu_of hr) (pd_var 0) pd_int)) (pw_and1 (pt_eq hr.units (pd_var 1) (pd_tup ma_nil)))))) (pd_glb T.g_TRUTH) pd_non)))
abbrev stof_words : Stmt := topS 21
theorem scof_words : FnScope ["kinds", "marks"] ["kinds", "marks"] (defScope stof_words) := ⟨rfl, rfl, rfl, by decide +kernel, rfl, by decide +kernel, by decide +kernel⟩
set_option maxHeartbeats 4000000 in
theorem deof_words {P : Program} {w : World} {G : Gm} {mg : Str → Option Value} {base : Heap} {c : Cl} (hW : G.w = w) (B : Bl mg) (T : ClD G mg c) (Fof_alike : Cal P w G mg base 1 "of_alike" (spof_alike c)) {f : Addr} (cdv : Value) (A : Around) (outer : List Env) (s : Shared) (H : Hp) (E : XK) (hr : Room 1 (A.deeper (envOfC "of_words" (defScope stof_words) s.heap.objs.size f cdv)))  :
    PDSs G E (cxOf CX0 P w G.K mg base ["kinds", "marks"] "of_words" (defScope stof_words) f cdv A outer s H E).nox (defBody stof_words) (wof_words c) :=
  (sds_cons (sd_if (pt_w (pw_or (pt_cmp op_isN' od_isN (pd_callC Fof_alike (hr.mono (by decide)) (ma_cons (pd_var 0) (ma_cons (pd_var 1) ma_nil))) pd_non) (pw_or1 (pt_ne hr.units (pd_ix (hu_of hr) (pd_ix (hu_of hr) (pd_var 0) pd_int) pd_int) pd_str))))
  (sds_one (sd_ret pd_non))
  sds_nil)
  (sds_one (sd_ret (pd_ix (hu_of hr) (pd_var 0) pd_int))))
abbrev stof_less : Stmt := topS 22
theorem scof_less : FnScope ["kinds", "marks"] ["kinds", "marks"] (defScope stof_less) := ⟨rfl, rfl, rfl, by decide +kernel, rfl, by decide +kernel, by decide +kernel⟩
set_option maxHeartbeats 4000000 in
theorem deof_less {P : Program} {w : World} {G : Gm} {mg : Str → Option Value} {base : Heap} {c : Cl} (hW : G.w = w) (B : Bl mg) (T : ClD G mg c) (Fof_words : Cal P w G mg base 2 "of_words" (spof_words c)) {f : Addr} (cdv : Value) (A : Around) (outer : List Env) (s : Shared) (H : Hp) (E : XK) (hr : Room 2 (A.deeper (envOfC "of_less" (defScope stof_less) s.heap.objs.size f cdv)))  :
    PDSs G E (cxOf CX0 P w G.K mg base ["kinds", "marks"] "of_less" (defScope stof_less) f cdv A outer s H E).nox (defBody stof_less) (wof_less c) :=
  (sds_one (sd_ret (pd_if (pt_cmp op_isN' od_isN (pd_callC Fof_words (hr.mono (by decide)) (ma_cons (pd_var 0) (ma_cons (pd_var 1) ma_nil))) pd_non) pd_non (pd_glb T.g_TRUTH))))
abbrev stof_choice : Stmt := topS 23
theorem scof_choice : FnScope ["kinds", "marks"] ["kinds", "marks"] (defScope stof_choice) := ⟨rfl, rfl, rfl, by decide +kernel, rfl, by decide +kernel, by decide +kernel⟩
set_option maxHeartbeats 4000000 in
theorem deof_choice {P : Program} {w : World} {G : Gm} {mg : Str → Option Value} {base : Heap} {c : Cl} (hW : G.w = w) (B : Bl mg) (T : ClD G mg c) (Fof_alike : Cal P w G mg base 1 "of_alike" (spof_alike c)) {f : Addr} (cdv : Value) (A : Around) (outer : List Env) (s : Shared) (H : Hp) (E : XK) (hr : Room 1 (A.deeper (envOfC "of_choice" (defScope stof_choice) s.heap.objs.size f cdv)))  :
    PDSs G E (cxOf CX0 P w G.K mg base ["kinds", "marks"] "of_choice" (defScope stof_choice) f cdv A outer s H E).nox (defBody stof_choice) (wof_choice c) :=
  (sds_cons (sd_if (pt_w (pw_or (pt_ne hr.units (pd_slA (pd_var 0) mo_none (mo_some pd_int)) (pd_lst (ma_cons (pd_glb T.g_TRUTH) ma_nil))) (pw_or1 (pt_cmp op_isN' od_isN (pd_callC Fof_alike (hr.mono (by decide)) (ma_cons (pd_slA (pd_var 0) (mo_some pd_int) mo_none) (ma_cons (pd_var 1) ma_nil))) pd_non))))
  (sds_one (sd_ret pd_non))
  sds_nil)
  (sds_one (sd_ret (pd_ix (hu_of hr) (pd_var 0) pd_int))))
abbrev stof_word : Stmt := topS 24
theorem scof_word : FnScope ["kinds", "marks"] ["kinds", "marks"] (defScope stof_word) := ⟨rfl, rfl, rfl, by decide +kernel, rfl, by decide +kernel, by decide +kernel⟩
set_option maxHeartbeats 4000000 in
theorem deof_word {P : Program} {w : World} {G : Gm} {mg : Str → Option Value} {base : Heap} {c : Cl} (hW : G.w = w) (B : Bl mg) (T : ClD G mg c)  {f : Addr} (cdv : Value) (A : Around) (outer : List Env) (s : Shared) (H : Hp) (E : XK) (hr : Room 0 (A.deeper (envOfC "of_word" (defScope stof_word) s.heap.objs.size f cdv)))  :
    PDSs G E (cxOf CX0 P w G.K mg base ["kinds", "marks"] "of_word" (defScope stof_word) f cdv A outer s H E).nox (defBody stof_word) (wof_word c) :=
  (sds_one (sd_ret (pd_if (pt_w (pw_and (pt_eq hr.units (pd_callB call_LEN (cd_len rfl) B.b_len (by decide +kernel) (ma_cons (pd_var 0) ma_nil)) pd_int) (pw_and (pt_eq hr.units (pd_ix (hu_of hr) (pd_ix (hu_of hr) (pd_var 0) pd_int) pd_int) pd_str) (pw_and1 (pt_eq hr.units (pd_var 1) (pd_tup ma_nil)))))) (pd_ix (hu_of hr) (pd_var 0) pd_int) pd_non)))
abbrev stof_joined : Stmt := topS 25
theorem scof_joined : FnScope ["kinds", "marks", "many", "kind"] ["kinds", "marks"] (defScope stof_joined) := ⟨rfl, rfl, rfl, by decide +kernel, rfl, by decide +kernel, by decide +kernel⟩
set_option maxHeartbeats 4000000 in
theorem deof_joined {P : Program} {w : World} {G : Gm} {mg : Str → Option Value} {base : Heap} {c : Cl} (hW : G.w = w) (B : Bl mg) (T : ClD G mg c)  {f : Addr} (cdv : Value) (A : Around) (outer : List Env) (s : Shared) (H : Hp) (E : XK) (hr : Room 0 (A.deeper (envOfC "of_joined" (defScope stof_joined) s.heap.objs.size f cdv)))  :
    PDSs G E (cxOf CX0 P w G.K mg base ["kinds", "marks", "many", "kind"] "of_joined" (defScope stof_joined) f cdv A outer s H E).nox (defBody stof_joined) (wof_joined c) :=
  (sds_cons (sd_if (pt_w (pw_or (pt_ne hr.units (pd_callB call_LEN (cd_len rfl) B.b_len (by decide +kernel) (ma_cons (pd_var 0) ma_nil)) pd_int) (pw_or (pt_ne hr.units (pd_var 1) (pd_tup ma_nil)) (pw_or1 (pt_ne hr.units (pd_lc [("kind", 3)] (blkOk_by (by kernel_rfl)) scof_joined.nd (mi_seq (pd_var 0)) (fun _ _ _ _ _ => (tg_nm 3 scof_joined.nd)) (fun _ _ _ _ _ => (ts_one (pt_ne hr.units (pd_ix (hu_of hr) (pd_var 3) pd_int) pd_str))) (fun _ _ _ _ _ => (pd_var 3))) (pd_lst ma_nil))))))
  (sds_one (sd_ret pd_non))
  sds_nil)
  (sds_cons (sd_set 2 (pd_op op_ADDT (od_addA rfl) (pd_ix (hu_of hr) (pd_ix (hu_of hr) (pd_var 0) pd_int) pd_int) (pd_ix (hu_of hr) (pd_ix (hu_of hr) (pd_var 0) pd_int) pd_int)) scof_joined.nd)
  (sds_one (sd_ret (pd_if (pt_cmp op_LE od_LE (pd_var 2) (pd_glb T.g_MOST_BITS)) (pd_tup (ma_cons pd_str (ma_cons (pd_var 2) ma_nil))) pd_non)))))
abbrev stof_cut : Stmt := topS 26
theorem scof_cut : FnScope ["kinds", "marks"] ["kinds", "marks"] (defScope stof_cut) := ⟨rfl, rfl, rfl, by decide +kernel, rfl, by decide +kernel, by decide +kernel⟩
set_option maxHeartbeats 4000000 in
theorem deof_cut {P : Program} {w : World} {G : Gm} {mg : Str → Option Value} {base : Heap} {c : Cl} (hW : G.w = w) (B : Bl mg) (T : ClD G mg c) (Fof_word : Cal P w G mg base 1 "of_word" (spof_word c)) (Fis_whole : Cal P w G mg base 1 "is_whole" (spis_whole c)) {f : Addr} (cdv : Value) (A : Around) (outer : List Env) (s : Shared) (H : Hp) (E : XK) (hr : Room 1 (A.deeper (envOfC "of_cut" (defScope stof_cut) s.heap.objs.size f cdv)))  :
    PDSs G E (cxOf CX0 P w G.K mg base ["kinds", "marks"] "of_cut" (defScope stof_cut) f cdv A outer s H E).nox (defBody stof_cut) (wof_cut c) :=
  (sds_cons (sd_if (pt_w (pw_or (pt_cmp op_isN' od_isN (pd_callC Fof_word (hr.mono (by decide)) (ma_cons (pd_var 0) (ma_cons (pd_tup ma_nil) ma_nil))) pd_non) (pw_or (pt_ne hr.units (pd_callB call_LEN (cd_len rfl) B.b_len (by decide +kernel) (ma_cons (pd_var 1) ma_nil)) pd_int) (pw_or1 (pt_not (pt_val (pd_callC Fis_whole (hr.mono (by decide)) (ma_cons (pd_ix (hu_of hr) (pd_var 1) pd_int) (ma_cons pd_int (ma_cons (pd_op op_sub od_sub (pd_ix (hu_of hr) (pd_ix (hu_of hr) (pd_var 0) pd_int) pd_int) pd_int) ma_nil))))))))))
  (sds_one (sd_ret pd_non))
  sds_nil)
  (sds_one (sd_ret (pd_if (pt_val (pd_callC Fis_whole (hr.mono (by decide)) (ma_cons (pd_ix (hu_of hr) (pd_var 1) pd_int) (ma_cons pd_int (ma_cons (pd_ix (hu_of hr) (pd_var 1) pd_int) ma_nil))))) (pd_tup (ma_cons pd_str (ma_cons (pd_op op_ADDT (od_addA rfl) (pd_op op_sub od_sub (pd_ix (hu_of hr) (pd_var 1) pd_int) (pd_ix (hu_of hr) (pd_var 1) pd_int)) pd_int) ma_nil))) pd_non))))
abbrev stof_read : Stmt := topS 27
theorem scof_read : FnScope ["kinds", "marks"] ["kinds", "marks"] (defScope stof_read) := ⟨rfl, rfl, rfl, by decide +kernel, rfl, by decide +kernel, by decide +kernel⟩
set_option maxHeartbeats 4000000 in
theorem deof_read {P : Program} {w : World} {G : Gm} {mg : Str → Option Value} {base : Heap} {c : Cl} (hW : G.w = w) (B : Bl mg) (T : ClD G mg c)  {f : Addr} (cdv : Value) (A : Around) (outer : List Env) (s : Shared) (H : Hp) (E : XK) (hr : Room 0 (A.deeper (envOfC "of_read" (defScope stof_read) s.heap.objs.size f cdv)))  :
    PDSs G E (cxOf CX0 P w G.K mg base ["kinds", "marks"] "of_read" (defScope stof_read) f cdv A outer s H E).nox (defBody stof_read) (wof_read c) :=
  (sds_cons (sd_if (pt_w (pw_or (pt_ne hr.units (pd_callB call_LEN (cd_len rfl) B.b_len (by decide +kernel) (ma_cons (pd_var 0) ma_nil)) pd_int) (pw_or (pt_ne hr.units (pd_var 1) (pd_tup ma_nil)) (pw_or (pt_ne hr.units (pd_ix (hu_of hr) (pd_ix (hu_of hr) (pd_var 0) pd_int) pd_int) pd_str) (pw_or1 (pt_ne hr.units (pd_ix (hu_of hr) (pd_var 0) pd_int) (pd_tup (ma_cons pd_str (ma_cons (pd_ix (hu_of hr) (pd_ix (hu_of hr) (pd_var 0) pd_int) pd_int) ma_nil)))))))))
  (sds_one (sd_ret pd_non))
  sds_nil)
  (sds_one (sd_ret (pd_tup (ma_cons pd_str (ma_cons (pd_ix (hu_of hr) (pd_ix (hu_of hr) (pd_var 0) pd_int) pd_int) ma_nil))))))
abbrev stof_written : Stmt := topS 28
theorem scof_written : FnScope ["kinds", "marks"] ["kinds", "marks"] (defScope stof_written) := ⟨rfl, rfl, rfl, by decide +kernel, rfl, by decide +kernel, by decide +kernel⟩
set_option maxHeartbeats 4000000 in
theorem deof_written {P : Program} {w : World} {G : Gm} {mg : Str → Option Value} {base : Heap} {c : Cl} (hW : G.w = w) (B : Bl mg) (T : ClD G mg c) (Fof_read : Cal P w G mg base 1 "of_read" (spof_read c)) {f : Addr} (cdv : Value) (A : Around) (outer : List Env) (s : Shared) (H : Hp) (E : XK) (hr : Room 1 (A.deeper (envOfC "of_written" (defScope stof_written) s.heap.objs.size f cdv)))  :
    PDSs G E (cxOf CX0 P w G.K mg base ["kinds", "marks"] "of_written" (defScope stof_written) f cdv A outer s H E).nox (defBody stof_written) (wof_written c) :=
  (sds_cons (sd_if (pt_w (pw_or (pt_cmp op_isN' od_isN (pd_callC Fof_read (hr.mono (by decide)) (ma_cons (pd_slA (pd_var 0) mo_none (mo_some pd_int)) (ma_cons (pd_var 1) ma_nil))) pd_non) (pw_or1 (pt_ne hr.units (pd_slA (pd_var 0) (mo_some pd_int) mo_none) (pd_lst (ma_cons (pd_tup (ma_cons pd_str (ma_cons (pd_ix (hu_of hr) (pd_ix (hu_of hr) (pd_var 0) pd_int) pd_int) ma_nil))) ma_nil))))))
  (sds_one (sd_ret pd_non))
  sds_nil)
  (sds_one (sd_ret (pd_ix (hu_of hr) (pd_var 0) pd_int))))
abbrev stkind_by : Stmt := topS 30
theorem sckind_by : FnScope ["word", "kinds", "marks", "rule"] ["word", "kinds", "marks"] (defScope stkind_by) := ⟨rfl, rfl, rfl, by decide +kernel, rfl, by decide +kernel, by decide +kernel⟩
set_option maxHeartbeats 4000000 in
theorem dekind_by {P : Program} {w : World} {G : Gm} {mg : Str → Option Value} {base : Heap} {c : Cl} (hW : G.w = w) (B : Bl mg) (T : ClD G mg c) (ARULES : ∀ q ∈ cbRULES c, CalT P w G mg base 3 q.1 q.2) {f : Addr} (cdv : Value) (A : Around) (outer : List Env) (s : Shared) (H : Hp) (E : XK) (hr : Room 3 (A.deeper (envOfC "kind_by" (defScope stkind_by) s.heap.objs.size f cdv)))  :
    PDSs G E (cxOf CX0 P w G.K mg base ["word", "kinds", "marks", "rule"] "kind_by" (defScope stkind_by) f cdv A outer s H E).nox (defBody stkind_by) (wkind_by c) :=
  (sds_cons (sd_set 3 (pd_ixKD T.t_RULES (pd_glb T.g_RULES) (pd_var 0)) sckind_by.nd)
  (sds_one (sd_ret (pd_callT (i := 3) ARULES (hr.mono (by decide)) (fun _ => (ma_cons (pd_var 1) (ma_cons (pd_var 2) ma_nil)))))))
abbrev stis_name : Stmt := topS 31
theorem scis_name : FnScope ["text", "sign"] ["text"] (defScope stis_name) := ⟨rfl, rfl, rfl, by decide +kernel, rfl, by decide +kernel, by decide +kernel⟩
set_option maxHeartbeats 4000000 in
theorem deis_name {P : Program} {w : World} {G : Gm} {mg : Str → Option Value} {base : Heap} {c : Cl} (hW : G.w = w) (B : Bl mg) (T : ClD G mg c)  {f : Addr} (cdv : Value) (A : Around) (outer : List Env) (s : Shared) (H : Hp) (E : XK) (hr : Room 0 (A.deeper (envOfC "is_name" (defScope stis_name) s.heap.objs.size f cdv)))  :
    PDSs G E (cxOf CX0 P w G.K mg base ["text", "sign"] "is_name" (defScope stis_name) f cdv A outer s H E).nox (defBody stis_name) (wis_name c) :=
  (sds_cons (sd_if (pt_w (pw_or (pt_not (pt_val (pd_callB call_ISI (cd_isi rfl) B.b_isinstance (by decide +kernel) (ma_cons (pd_var 0) (ma_cons (pd_ty B.b_str (by decide +kernel)) ma_nil))))) (pw_or1 (pt_not (pt_chn op_le od_le op_le od_le pd_int (pd_callB call_LEN (cd_len rfl) B.b_len (by decide +kernel) (ma_cons (pd_var 0) ma_nil)) (pd_glb T.g_MOST_LETTERS))))))
  (sds_one (sd_ret pd_bl))
  sds_nil)
  (sds_cons (sd_if (pt_w (pw_or (pt_inKD T.t_RULES (pd_var 0) (pd_glb T.g_RULES)) (pw_or1 (pt_in (hu_of hr) (pd_var 0) (pd_tup (ma_cons pd_str (ma_cons pd_str ma_nil)))))))
  (sds_one (sd_ret pd_bl))
  sds_nil)
  (sds_one (sd_ret (pd_callB (cr_all rfl) (cd_all rfl) B.b_all (by decide +kernel) (ma_cons (pd_lc [("sign", 1)] (blkOk_by (by kernel_rfl)) scis_name.nd (mi_str (pd_var 0)) (fun _ _ _ _ _ => (tg_nm 1 scis_name.nd)) (fun _ _ _ _ _ => ts_nil) (fun _ _ _ _ _ => (pd_in (hu_of hr) (pd_var 1) (pd_glb T.g_LETTERS)))) ma_nil))))))
abbrev stneed_term : Stmt := topS 32
theorem scneed_term : FnScope ["bank", "term"] ["bank", "term"] (defScope stneed_term) := ⟨rfl, rfl, rfl, by decide +kernel, rfl, by decide +kernel, by decide +kernel⟩
set_option maxHeartbeats 4000000 in
theorem deneed_term {P : Program} {w : World} {G : Gm} {mg : Str → Option Value} {base : Heap} {c : Cl} (hW : G.w = w) (B : Bl mg) (T : ClD G mg c) (Fis_whole : Cal P w G mg base 1 "is_whole" (spis_whole c)) {f : Addr} (cdv : Value) (A : Around) (outer : List Env) (s : Shared) (H : Hp) (E : XK) (hr : Room 1 (A.deeper (envOfC "need_term" (defScope stneed_term) s.heap.objs.size f cdv)))  :
    PDSs G E (cxOf CX0 P w G.K mg base ["bank", "term"] "need_term" (defScope stneed_term) f cdv A outer s H E).nox (defBody stneed_term) (wneed_term c) :=
  (sds_one (sd_if (pt_not (pt_val (pd_callC Fis_whole (hr.mono (by decide)) (ma_cons (pd_var 1) (ma_cons pd_int (ma_cons (pd_op op_sub od_sub (pd_callB call_LEN (cd_len rfl) B.b_len (by decide +kernel) (ma_cons (pd_fld T.Bank 0 (pd_var 0)) ma_nil)) pd_int) ma_nil))))))
  (sds_one sd_never)
  sds_nil))
abbrev stput_in : Stmt := topS 33
theorem scput_in : FnScope ["bank", "made", "sort"] ["bank", "made", "sort"] (defScope stput_in) := ⟨rfl, rfl, rfl, by decide +kernel, rfl, by decide +kernel, by decide +kernel⟩
set_option maxHeartbeats 4000000 in
theorem deput_in {P : Program} {w : World} {G : Gm} {mg : Str → Option Value} {base : Heap} {c : Cl} (hW : G.w = w) (B : Bl mg) (T : ClD G mg c)  {f : Addr} (cdv : Value) (A : Around) (outer : List Env) (s : Shared) (H : Hp) (E : XK) (hr : Room 0 (A.deeper (envOfC "put_in" (defScope stput_in) s.heap.objs.size f cdv)))  :
    PDSs G E (cxOf CX0 P w G.K mg base ["bank", "made", "sort"] "put_in" (defScope stput_in) f cdv A outer s H E).nox (defBody stput_in) (wput_in c) :=
  (sds_cons (sd_if (pt_ninN (hu20 hr) (pd_var 1) (pd_fld T.Bank 2 (pd_var 0)))
  (sds_cons (sd_asg (pd_callB call_LEN (cd_len rfl) B.b_len (by decide +kernel) (ma_cons (pd_fld T.Bank 0 (pd_var 0)) ma_nil)) (gd_sbN (hu20 hr) (pd_fld T.Bank 2 (pd_var 0)) (pd_var 1)))
  (sds_cons (sd_expr (pd_lm PySem.F.slot_list_append PySem.F.type_list_append mt_append md_app (pd_fld T.Bank 0 (pd_var 0)) (ma_cons (pd_var 1) ma_nil)))
  (sds_one (sd_expr (pd_lm PySem.F.slot_list_append PySem.F.type_list_append mt_append md_app (pd_fld T.Bank 1 (pd_var 0)) (ma_cons (pd_var 2) ma_nil))))))
  sds_nil)
  (sds_one (sd_ret (pd_ixN (hu20 hr) (pd_fld T.Bank 2 (pd_var 0)) (pd_var 1)))))
abbrev stBank_DinitD : Stmt := inClass (topS 34) 0
theorem scBank_DinitD : FnScope ["self"] ["self"] (defScope stBank_DinitD) := ⟨rfl, rfl, rfl, by decide +kernel, rfl, by decide +kernel, by decide +kernel⟩
set_option maxHeartbeats 4000000 in
theorem deBank_DinitD {P : Program} {w : World} {G : Gm} {mg : Str → Option Value} {base : Heap} {c : Cl} (hW : G.w = w) (B : Bl mg) (T : ClD G mg c)  {f : Addr} (cdv : Value) (A : Around) (outer : List Env) (s : Shared) (H : Hp) (E : XK) (hr : Room 0 (A.deeper (envOfC "Bank.__init__" (defScope stBank_DinitD) s.heap.objs.size f cdv)))  :
    PDSs G E (cxOf CX0 P w G.K mg base ["self"] "Bank.__init__" (defScope stBank_DinitD) f cdv A outer s H E).nox (defBody stBank_DinitD) (wBank_DinitD c) :=
  (sds_cons (sd_fld T.Bank 0 (pd_var 0) (pd_lstH ma_nil))
  (sds_cons (sd_fld T.Bank 1 (pd_var 0) (pd_lstH ma_nil))
  (sds_cons (sd_fld T.Bank 2 (pd_var 0) pd_dicN)
  (sds_one (sd_fld T.Bank 3 (pd_var 0) pd_dic)))))
abbrev stBank_make : Stmt := inClass (topS 34) 1
theorem scBank_make : FnScope ["self", "word", "parts", "marks", "part", "sort"] ["self", "word", "parts", "marks"] (defScope stBank_make) := ⟨rfl, rfl, rfl, by decide +kernel, rfl, by decide +kernel, by decide +kernel⟩
set_option maxHeartbeats 4000000 in
theorem deBank_make {P : Program} {w : World} {G : Gm} {mg : Str → Option Value} {base : Heap} {c : Cl} (hW : G.w = w) (B : Bl mg) (T : ClD G mg c) (Fneed_term : Cal P w G mg base 2 "need_term" (spneed_term c)) (Fkind_by : Cal P w G mg base 4 "kind_by" (spkind_by c)) (Fput_in : Cal P w G mg base 1 "put_in" (spput_in c)) {f : Addr} (cdv : Value) (A : Around) (outer : List Env) (s : Shared) (H : Hp) (E : XK) (hr : Room 4 (A.deeper (envOfC "Bank.make" (defScope stBank_make) s.heap.objs.size f cdv)))  :
    PDSs G E (cxOf CX0 P w G.K mg base ["self", "word", "parts", "marks", "part", "sort"] "Bank.make" (defScope stBank_make) f cdv A outer s H E).nox (defBody stBank_make) (wBank_make c) :=
  (sds_cons (sd_if (pt_ninKD T.t_RULES (pd_var 1) (pd_glb T.g_RULES))
  (sds_one sd_never)
  sds_nil)
  (sds_cons (sd_for PassesOwn.never (mi_seq (pd_var 2)) (gd_nm 4 scBank_make.nd)
  (sds_one (sd_expr (pd_callC Fneed_term (hr.mono (by decide)) (ma_cons (pd_var 0) (ma_cons (pd_var 4) ma_nil))))))
  (sds_cons (sd_set 5 (pd_callC Fkind_by (hr.mono (by decide)) (ma_cons (pd_var 1) (ma_cons (pd_lc [("part", 4)] (blkOk_by (by kernel_rfl)) scBank_make.nd (mi_seq (pd_var 2)) (fun _ _ _ _ _ => (tg_nm 4 scBank_make.nd)) (fun _ _ _ _ _ => ts_nil) (fun _ _ _ _ _ => (pd_ix (hu_of hr) (pd_fld T.Bank 1 (pd_var 0)) (pd_var 4)))) (ma_cons (pd_callTy call_TUPLE (cd_tuple rfl) B.b_tuple (by decide +kernel) (ma_cons (pd_var 3) ma_nil)) ma_nil)))) scBank_make.nd)
  (sds_cons (sd_if (pt_cmp op_isN' od_isN (pd_var 5) pd_non)
  (sds_one sd_never)
  sds_nil)
  (sds_one (sd_ret (pd_callC Fput_in (hr.mono (by decide)) (ma_cons (pd_var 0) (ma_cons (pd_tup (ma_cons (pd_var 1) (ma_cons (pd_callTy call_TUPLE (cd_tuple rfl) B.b_tuple (by decide +kernel) (ma_cons (pd_var 2) ma_nil)) (ma_cons (pd_callTy call_TUPLE (cd_tuple rfl) B.b_tuple (by decide +kernel) (ma_cons (pd_var 3) ma_nil)) ma_nil)))) (ma_cons (pd_var 5) ma_nil))))))))))
abbrev stBank_name : Stmt := inClass (topS 34) 2
theorem scBank_name : FnScope ["self", "text", "kind", "sort"] ["self", "text", "kind"] (defScope stBank_name) := ⟨rfl, rfl, rfl, by decide +kernel, rfl, by decide +kernel, by decide +kernel⟩
set_option maxHeartbeats 4000000 in
theorem deBank_name {P : Program} {w : World} {G : Gm} {mg : Str → Option Value} {base : Heap} {c : Cl} (hW : G.w = w) (B : Bl mg) (T : ClD G mg c) (Fas_kind : Cal P w G mg base 2 "as_kind" (spas_kind c)) (Fis_name : Cal P w G mg base 1 "is_name" (spis_name c)) (Fput_in : Cal P w G mg base 1 "put_in" (spput_in c)) {f : Addr} (cdv : Value) (A : Around) (outer : List Env) (s : Shared) (H : Hp) (E : XK) (hr : Room 2 (A.deeper (envOfC "Bank.name" (defScope stBank_name) s.heap.objs.size f cdv)))  :
    PDSs G E (cxOf CX0 P w G.K mg base ["self", "text", "kind", "sort"] "Bank.name" (defScope stBank_name) f cdv A outer s H E).nox (defBody stBank_name) (wBank_name c) :=
  (sds_cons (sd_set 3 (pd_callC Fas_kind (hr.mono (by decide)) (ma_cons (pd_var 2) ma_nil)) scBank_name.nd)
  (sds_cons (sd_if (pt_not (pt_val (pd_callC Fis_name (hr.mono (by decide)) (ma_cons (pd_var 1) ma_nil))))
  (sds_one sd_never)
  sds_nil)
  (sds_cons (sd_if (pt_cmp op_isN' od_isN (pd_var 3) pd_non)
  (sds_one sd_never)
  sds_nil)
  (sds_cons (sd_if (pt_w (pw_and (pt_in (hu_of hr) (pd_var 1) (pd_fld T.Bank 3 (pd_var 0))) (pw_and1 (pt_ne hr.units (pd_ix (hu_of hr) (pd_fld T.Bank 1 (pd_var 0)) (pd_ix (hu_of hr) (pd_fld T.Bank 3 (pd_var 0)) (pd_var 1))) (pd_var 3)))))
  (sds_one sd_never)
  sds_nil)
  (sds_cons (sd_asg (pd_callC Fput_in (hr.mono (by decide)) (ma_cons (pd_var 0) (ma_cons (pd_tup (ma_cons pd_str (ma_cons (pd_tup ma_nil) (ma_cons (pd_tup (ma_cons (pd_var 1) (ma_cons (pd_var 3) ma_nil))) ma_nil)))) (ma_cons (pd_var 3) ma_nil)))) (gd_sb (hu_of hr) (pd_fld T.Bank 3 (pd_var 0)) (pd_var 1)))
  (sds_one (sd_ret (pd_ix (hu_of hr) (pd_fld T.Bank 3 (pd_var 0)) (pd_var 1)))))))))
abbrev stBank_kind : Stmt := inClass (topS 34) 3
theorem scBank_kind : FnScope ["self", "term"] ["self", "term"] (defScope stBank_kind) := ⟨rfl, rfl, rfl, by decide +kernel, rfl, by decide +kernel, by decide +kernel⟩
set_option maxHeartbeats 4000000 in
theorem deBank_kind {P : Program} {w : World} {G : Gm} {mg : Str → Option Value} {base : Heap} {c : Cl} (hW : G.w = w) (B : Bl mg) (T : ClD G mg c) (Fneed_term : Cal P w G mg base 2 "need_term" (spneed_term c)) {f : Addr} (cdv : Value) (A : Around) (outer : List Env) (s : Shared) (H : Hp) (E : XK) (hr : Room 2 (A.deeper (envOfC "Bank.kind" (defScope stBank_kind) s.heap.objs.size f cdv)))  :
    PDSs G E (cxOf CX0 P w G.K mg base ["self", "term"] "Bank.kind" (defScope stBank_kind) f cdv A outer s H E).nox (defBody stBank_kind) (wBank_kind c) :=
  (sds_cons (sd_expr (pd_callC Fneed_term (hr.mono (by decide)) (ma_cons (pd_var 0) (ma_cons (pd_var 1) ma_nil))))
  (sds_one (sd_ret (pd_ix (hu_of hr) (pd_fld T.Bank 1 (pd_var 0)) (pd_var 1)))))
abbrev stBank_node : Stmt := inClass (topS 34) 4
theorem scBank_node : FnScope ["self", "term"] ["self", "term"] (defScope stBank_node) := ⟨rfl, rfl, rfl, by decide +kernel, rfl, by decide +kernel, by decide +kernel⟩
set_option maxHeartbeats 4000000 in
theorem deBank_node {P : Program} {w : World} {G : Gm} {mg : Str → Option Value} {base : Heap} {c : Cl} (hW : G.w = w) (B : Bl mg) (T : ClD G mg c) (Fneed_term : Cal P w G mg base 2 "need_term" (spneed_term c)) {f : Addr} (cdv : Value) (A : Around) (outer : List Env) (s : Shared) (H : Hp) (E : XK) (hr : Room 2 (A.deeper (envOfC "Bank.node" (defScope stBank_node) s.heap.objs.size f cdv)))  :
    PDSs G E (cxOf CX0 P w G.K mg base ["self", "term"] "Bank.node" (defScope stBank_node) f cdv A outer s H E).nox (defBody stBank_node) (wBank_node c) :=
  (sds_cons (sd_expr (pd_callC Fneed_term (hr.mono (by decide)) (ma_cons (pd_var 0) (ma_cons (pd_var 1) ma_nil))))
  (sds_one (sd_ret (pd_ix (hu_of hr) (pd_fld T.Bank 0 (pd_var 0)) (pd_var 1)))))
abbrev stBank_DlenD : Stmt := inClass (topS 34) 7
theorem scBank_DlenD : FnScope ["self"] ["self"] (defScope stBank_DlenD) := ⟨rfl, rfl, rfl, by decide +kernel, rfl, by decide +kernel, by decide +kernel⟩
set_option maxHeartbeats 4000000 in
theorem deBank_DlenD {P : Program} {w : World} {G : Gm} {mg : Str → Option Value} {base : Heap} {c : Cl} (hW : G.w = w) (B : Bl mg) (T : ClD G mg c)  {f : Addr} (cdv : Value) (A : Around) (outer : List Env) (s : Shared) (H : Hp) (E : XK) (hr : Room 0 (A.deeper (envOfC "Bank.__len__" (defScope stBank_DlenD) s.heap.objs.size f cdv)))  :
    PDSs G E (cxOf CX0 P w G.K mg base ["self"] "Bank.__len__" (defScope stBank_DlenD) f cdv A outer s H E).nox (defBody stBank_DlenD) (wBank_DlenD c) :=
  (sds_one (sd_ret (pd_callB call_LEN (cd_len rfl) B.b_len (by decide +kernel) (ma_cons (pd_fld T.Bank 0 (pd_var 0)) ma_nil))))
abbrev st_law_reel : Stmt := topS 36
theorem sc_law_reel : FnScope ["_law_script", "_law_stir", "_law_cell", "_law_great"] ["_law_script"] (defScope st_law_reel) := ⟨rfl, rfl, rfl, by decide +kernel, rfl, by decide +kernel, by decide +kernel⟩
set_option maxHeartbeats 4000000 in
theorem de_law_reel {P : Program} {w : World} {G : Gm} {mg : Str → Option Value} {base : Heap} {c : Cl} (hW : G.w = w) (B : Bl mg) (T : ClD G mg c)  {f : Addr} (cdv : Value) (A : Around) (outer : List Env) (s : Shared) (H : Hp) (E : XK) (hr : Room 0 (A.deeper (envOfC "_law_reel" (defScope st_law_reel) s.heap.objs.size f cdv)))  :
    PDSs G E (cxOf CX0 P w G.K mg base ["_law_script", "_law_stir", "_law_cell", "_law_great"] "_law_reel" (defScope st_law_reel) f cdv A outer s H E).nox (defBody st_law_reel) (w_law_reel c) :=
  (sds_cons (sd_set 1 (pd_op op_pow od_pow pd_int pd_int) sc_law_reel.nd)
  (sds_cons (sd_for PassesOwn.never (mi_seq (pd_slA (pd_var 0) mo_none (mo_some pd_int))) (gd_nm 2 sc_law_reel.nd)
  (sds_one (sd_set 1 (pd_op op_mod od_mod (pd_op op_ADDT (od_addA rfl) (pd_op op_ADDT (od_addA rfl) (pd_op op_MULT (od_mulA rfl) (pd_var 1) (pd_var 1)) (pd_op op_mod od_mod (pd_var 2) pd_int)) pd_int) (pd_op op_sub od_sub (pd_op op_MULT (od_mulA rfl) (pd_op op_pow od_pow pd_int pd_int) (pd_op op_pow od_pow pd_int pd_int)) pd_int)) sc_law_reel.nd)))
  (sds_cons (sd_setLc 3 [("_law_cell", 2)] (blkOk_by (by kernel_rfl)) sc_law_reel.nd (mi_seq (pd_slA (pd_var 0) mo_none (mo_some pd_int))) (fun _ _ _ _ _ => (tg_nm 2 sc_law_reel.nd)) (fun _ _ _ _ _ => (ts_one (pt_cmp op_ge od_ge (pd_var 2) (pd_op op_pow od_pow pd_int pd_int)))) (fun _ _ _ _ _ => (pd_op op_sub od_sub (pd_var 2) (pd_op op_pow od_pow pd_int pd_int))))
  (sds_one (sd_ret (pd_lstH (ma_cons (pd_var 3) (ma_cons (pd_op op_ADDT (od_addA rfl) (pd_lc [("_law_cell", 2)] (blkOk_by (by kernel_rfl)) sc_law_reel.nd (mi_seq (pd_slA (pd_var 0) mo_none (mo_some pd_int))) (fun _ _ _ _ _ => (tg_nm 2 sc_law_reel.nd)) (fun _ _ _ _ _ => ts_nil) (fun _ _ _ _ _ => (pd_op op_mod od_mod (pd_var 2) pd_int))) (pd_lst (ma_cons pd_int ma_nil))) (ma_cons pd_int (ma_cons (pd_var 1) ma_nil))))))))))
abbrev st_law_draw : Stmt := topS 37
theorem sc_law_draw : FnScope ["_law_reel_here", "_law_many", "_law_told", "_law_stir", "_law_rest"] ["_law_reel_here", "_law_many"] (defScope st_law_draw) := ⟨rfl, rfl, rfl, by decide +kernel, rfl, by decide +kernel, by decide +kernel⟩
set_option maxHeartbeats 4000000 in
theorem de_law_draw {P : Program} {w : World} {G : Gm} {mg : Str → Option Value} {base : Heap} {c : Cl} (hW : G.w = w) (B : Bl mg) (T : ClD G mg c)  {f : Addr} (cdv : Value) (A : Around) (outer : List Env) (s : Shared) (H : Hp) (E : XK) (hr : Room 0 (A.deeper (envOfC "_law_draw" (defScope st_law_draw) s.heap.objs.size f cdv)))  :
    PDSs G E (cxOf CX0 P w G.K mg base ["_law_reel_here", "_law_many", "_law_told", "_law_stir", "_law_rest"] "_law_draw" (defScope st_law_draw) f cdv A outer s H E).nox (defBody st_law_draw) (w_law_draw c) :=
  (sds_cons (sd_if (pt_ne hr.units (pd_ix (hu_of hr) (pd_var 0) pd_int) (pd_lst ma_nil))
  (sds_cons (sd_set 4 (pd_ix (hu_of hr) (pd_ix (hu_of hr) (pd_var 0) pd_int) pd_int) sc_law_draw.nd)
  (sds_cons (sd_asg (pd_op op_ADDT (od_addA rfl) (pd_op op_MULT (od_mulA rfl) (pd_lst (ma_cons (pd_op op_fdivW od_div (pd_var 4) (pd_var 1)) ma_nil)) (pd_callTy call_INT cd_int B.b_int (by decide +kernel) (ma_cons (pd_cmp op_ge od_ge (pd_var 4) (pd_var 1)) ma_nil))) (pd_slA (pd_ix (hu_of hr) (pd_var 0) pd_int) (mo_some pd_int) mo_none)) (gd_sb (hu_of hr) (pd_var 0) pd_int))
  (sds_one (sd_ret (pd_op op_mod od_mod (pd_var 4) (pd_var 1))))))
  sds_nil)
  (sds_cons (sd_asg (pd_op op_ADDT (od_addA rfl) (pd_ix (hu_of hr) (pd_var 0) pd_int) pd_int) (gd_sb (hu_of hr) (pd_var 0) pd_int))
  (sds_cons (sd_set 2 (pd_ix (hu_of hr) (pd_ix (hu_of hr) (pd_var 0) pd_int) (pd_op op_mod od_mod (pd_ix (hu_of hr) (pd_var 0) pd_int) (pd_callB call_LEN (cd_len rfl) B.b_len (by decide +kernel) (ma_cons (pd_ix (hu_of hr) (pd_var 0) pd_int) ma_nil)))) sc_law_draw.nd)
  (sds_cons (sd_set 3 (pd_op op_ADDT (od_addA rfl) (pd_op op_ADDT (od_addA rfl) (pd_op op_MULT (od_mulA rfl) (pd_ix (hu_of hr) (pd_var 0) pd_int) (pd_ix (hu_of hr) (pd_var 0) pd_int)) (pd_op op_MULT (od_mulA rfl) (pd_op op_ADDT (od_addA rfl) (pd_var 2) pd_int) pd_int)) (pd_op op_MULT (od_mulA rfl) (pd_ix (hu_of hr) (pd_var 0) pd_int) pd_int)) sc_law_draw.nd)
  (sds_cons (sd_asg (pd_op op_mod od_mod (pd_var 3) (pd_op op_sub od_sub (pd_op op_MULT (od_mulA rfl) (pd_op op_pow od_pow pd_int pd_int) (pd_op op_pow od_pow pd_int pd_int)) pd_int)) (gd_sb (hu_of hr) (pd_var 0) pd_int))
  (sds_one (sd_ret (pd_op op_mod od_mod (pd_op op_fdivW od_div (pd_ix (hu_of hr) (pd_var 0) pd_int) (pd_op op_pow od_pow pd_int pd_int)) (pd_var 1)))))))))
abbrev st_law_words : Stmt := topS 38
theorem sc_law_words : FnScope ["_law_some"] [] (defScope st_law_words) := ⟨rfl, rfl, rfl, by decide +kernel, rfl, by decide +kernel, by decide +kernel⟩
set_option maxHeartbeats 4000000 in
theorem de_law_words {P : Program} {w : World} {G : Gm} {mg : Str → Option Value} {base : Heap} {c : Cl} (hW : G.w = w) (B : Bl mg) (T : ClD G mg c)  {f : Addr} (cdv : Value) (A : Around) (outer : List Env) (s : Shared) (H : Hp) (E : XK) (hr : Room 0 (A.deeper (envOfC "_law_words" (defScope st_law_words) s.heap.objs.size f cdv)))  :
    PDSs G E (cxOf CX0 P w G.K mg base ["_law_some"] "_law_words" (defScope st_law_words) f cdv A outer s H E).nox (defBody st_law_words) (w_law_words c) :=
  (sds_cons (sd_set 0 (pd_lst (ma_cons pd_str (ma_cons pd_str (ma_cons pd_str (ma_cons pd_str (ma_cons pd_str (ma_cons pd_str (ma_cons pd_str (ma_cons pd_str (ma_cons pd_str (ma_cons pd_str (ma_cons pd_str (ma_cons pd_str (ma_cons pd_str ma_nil)))))))))))))) sc_law_words.nd)
  (sds_cons (sd_set 0 (pd_op op_ADDT (od_addA rfl) (pd_var 0) (pd_lst (ma_cons pd_str (ma_cons pd_str (ma_cons pd_str (ma_cons pd_str (ma_cons pd_str (ma_cons pd_str (ma_cons pd_str (ma_cons pd_str (ma_cons pd_str (ma_cons pd_str (ma_cons pd_str (ma_cons pd_str (ma_cons pd_str ma_nil))))))))))))))) sc_law_words.nd)
  (sds_one (sd_ret (pd_var 0)))))
abbrev st_law_array_kind : Stmt := topS 40
theorem sc_law_array_kind : FnScope ["_law_word", "_law_kinds", "_law_due"] ["_law_word", "_law_kinds"] (defScope st_law_array_kind) := ⟨rfl, rfl, rfl, by decide +kernel, rfl, by decide +kernel, by decide +kernel⟩
set_option maxHeartbeats 4000000 in
theorem de_law_array_kind {P : Program} {w : World} {G : Gm} {mg : Str → Option Value} {base : Heap} {c : Cl} (hW : G.w = w) (B : Bl mg) (T : ClD G mg c)  {f : Addr} (cdv : Value) (A : Around) (outer : List Env) (s : Shared) (H : Hp) (E : XK) (hr : Room 0 (A.deeper (envOfC "_law_array_kind" (defScope st_law_array_kind) s.heap.objs.size f cdv)))  :
    PDSs G E (cxOf CX0 P w G.K mg base ["_law_word", "_law_kinds", "_law_due"] "_law_array_kind" (defScope st_law_array_kind) f cdv A outer s H E).nox (defBody st_law_array_kind) (w_law_array_kind c) :=
  (sds_cons (sd_if (pt_w (pw_or (pt_eq hr.units (pd_var 1) (pd_lst ma_nil)) (pw_or1 (pt_ne hr.units (pd_ix (hu_of hr) (pd_ix (hu_of hr) (pd_var 1) pd_int) pd_int) pd_str))))
  (sds_one (sd_ret pd_non))
  sds_nil)
  (sds_cons (sd_set 2 (pd_lstH (ma_cons (pd_tup (ma_cons pd_str (ma_cons (pd_ix (hu_of hr) (pd_ix (hu_of hr) (pd_var 1) pd_int) pd_int) ma_nil))) ma_nil)) sc_law_array_kind.nd)
  (sds_cons (sd_if (pt_eq hr.units (pd_var 0) pd_str)
  (sds_one (sd_expr (pd_lm PySem.F.slot_list_append PySem.F.type_list_append mt_append md_app (pd_var 2) (ma_cons (pd_tup (ma_cons pd_str (ma_cons (pd_ix (hu_of hr) (pd_ix (hu_of hr) (pd_var 1) pd_int) pd_int) ma_nil))) ma_nil))))
  sds_nil)
  (sds_cons (sd_if (pt_ne hr.units (pd_slA (pd_var 1) (mo_some pd_int) mo_none) (pd_var 2))
  (sds_one (sd_ret pd_non))
  sds_nil)
  (sds_one (sd_ret (pd_if (pt_eq hr.units (pd_var 0) pd_str) (pd_tup (ma_cons pd_str (ma_cons (pd_ix (hu_of hr) (pd_ix (hu_of hr) (pd_var 1) pd_int) pd_int) ma_nil))) (pd_ix (hu_of hr) (pd_var 1) pd_int))))))))
abbrev st_law_names : Stmt := topS 41
theorem sc_law_names : FnScope ["_law_reel_here", "_law_wide", "_law_places", "_law_deep", "_law_some", "_law_found", "_law_like", "_law_name", "_law_kind_here", "_law_tail"] ["_law_reel_here"] (defScope st_law_names) := ⟨rfl, rfl, rfl, by decide +kernel, rfl, by decide +kernel, by decide +kernel⟩
set_option maxHeartbeats 4000000 in
theorem de_law_names {P : Program} {w : World} {G : Gm} {mg : Str → Option Value} {base : Heap} {c : Cl} (hW : G.w = w) (B : Bl mg) (T : ClD G mg c) (F_law_draw : Cal P w G mg base 1 "_law_draw" (sp_law_draw c)) {f : Addr} (cdv : Value) (A : Around) (outer : List Env) (s : Shared) (H : Hp) (E : XK) (hr : Room 1 (A.deeper (envOfC "_law_names" (defScope st_law_names) s.heap.objs.size f cdv)))  :
    PDSs G E (cxOf CX0 P w G.K mg base ["_law_reel_here", "_law_wide", "_law_places", "_law_deep", "_law_some", "_law_found", "_law_like", "_law_name", "_law_kind_here", "_law_tail"] "_law_names" (defScope st_law_names) f cdv A outer s H E).nox (defBody st_law_names) (w_law_names c) :=
  (sds_cons (sd_set 1 (pd_ix (hu_of hr) (pd_lst (ma_cons pd_int (ma_cons pd_int (ma_cons pd_int (ma_cons pd_int (ma_cons pd_int (ma_cons (pd_op op_ADDT (od_addA rfl) pd_int (pd_callC F_law_draw (hr.mono (by decide)) (ma_cons (pd_var 0) (ma_cons pd_int ma_nil)))) ma_nil))))))) (pd_callC F_law_draw (hr.mono (by decide)) (ma_cons (pd_var 0) (ma_cons pd_int ma_nil)))) sc_law_names.nd)
  (sds_cons (sd_set 2 (pd_op op_ADDT (od_addA rfl) pd_int (pd_callC F_law_draw (hr.mono (by decide)) (ma_cons (pd_var 0) (ma_cons pd_int ma_nil)))) sc_law_names.nd)
  (sds_cons (sd_set 3 (pd_ix (hu_of hr) (pd_lst (ma_cons (pd_var 1) (ma_cons (pd_op op_ADDT (od_addA rfl) pd_int (pd_callC F_law_draw (hr.mono (by decide)) (ma_cons (pd_var 0) (ma_cons pd_int ma_nil)))) ma_nil))) (pd_callC F_law_draw (hr.mono (by decide)) (ma_cons (pd_var 0) (ma_cons pd_int ma_nil)))) sc_law_names.nd)
  (sds_cons (sd_set 4 (pd_lst (ma_cons (pd_tup (ma_cons pd_str (ma_cons (pd_tup (ma_cons pd_str ma_nil)) ma_nil))) (ma_cons (pd_tup (ma_cons pd_str (ma_cons (pd_tup (ma_cons pd_str ma_nil)) ma_nil))) (ma_cons (pd_tup (ma_cons pd_str (ma_cons (pd_tup (ma_cons pd_str (ma_cons (pd_var 1) ma_nil))) ma_nil))) (ma_cons (pd_tup (ma_cons pd_str (ma_cons (pd_tup (ma_cons pd_str (ma_cons (pd_var 1) ma_nil))) ma_nil))) ma_nil))))) sc_law_names.nd)
  (sds_cons (sd_set 4 (pd_op op_ADDT (od_addA rfl) (pd_var 4) (pd_lst (ma_cons (pd_tup (ma_cons pd_str (ma_cons (pd_tup (ma_cons pd_str (ma_cons (pd_var 2) (ma_cons (pd_var 3) ma_nil)))) ma_nil))) (ma_cons (pd_tup (ma_cons pd_str (ma_cons (pd_tup (ma_cons pd_str (ma_cons (pd_var 2) ma_nil))) ma_nil))) (ma_cons (pd_tup (ma_cons pd_str (ma_cons (pd_tup (ma_cons pd_str (ma_cons (pd_var 3) ma_nil))) ma_nil))) ma_nil))))) sc_law_names.nd)
  (sds_cons (sd_set 5 (pd_lstH ma_nil) sc_law_names.nd)
  (sds_cons (sd_set 6 (pd_eq hr.units (pd_callC F_law_draw (hr.mono (by decide)) (ma_cons (pd_var 0) (ma_cons pd_int ma_nil))) pd_int) sc_law_names.nd)
  (sds_cons (sd_for PassesOwn.never (mi_seq (pd_var 4)) (gd_tp (gds_cons (gd_nm 7 sc_law_names.nd) (gds_cons (gd_nm 8 sc_law_names.nd) gds_nil)))
  (sds_cons (sd_set 9 (pd_ix (hu_of hr) (pd_lst (ma_cons pd_str (ma_cons pd_str (ma_cons pd_str (ma_cons pd_str (ma_cons pd_str (ma_cons pd_str ma_nil))))))) (pd_callC F_law_draw (hr.mono (by decide)) (ma_cons (pd_var 0) (ma_cons pd_int ma_nil)))) sc_law_names.nd)
  (sds_one (sd_expr (pd_lm PySem.F.slot_list_append PySem.F.type_list_append mt_append md_app (pd_var 5) (ma_cons (pd_tup (ma_cons (pd_if (pt_val (pd_var 6)) (pd_op op_ADDT (od_addA rfl) pd_str (pd_ix (hu_of hr) (pd_var 7) (pd_un un_neg ud_neg pd_int))) (pd_op op_ADDT (od_addA rfl) (pd_var 7) (pd_var 9))) (ma_cons (pd_var 8) ma_nil))) ma_nil))))))
  (sds_one (sd_ret (pd_var 5)))))))))))
abbrev st_law_begun : Stmt := topS 42
theorem sc_law_begun : FnScope ["_law_reel_here", "_law_some", "_law_named", "_law_name", "_law_kind_here"] ["_law_reel_here"] (defScope st_law_begun) := ⟨rfl, rfl, rfl, by decide +kernel, rfl, by decide +kernel, by decide +kernel⟩
set_option maxHeartbeats 4000000 in
theorem de_law_begun {P : Program} {w : World} {G : Gm} {mg : Str → Option Value} {base : Heap} {c : Cl} (hW : G.w = w) (B : Bl mg) (T : ClD G mg c) (F_law_names : Cal P w G mg base 2 "_law_names" (sp_law_names c)) {f : Addr} (cdv : Value) (A : Around) (outer : List Env) (s : Shared) (H : Hp) (E : XK) (hr : Room 2 (A.deeper (envOfC "_law_begun" (defScope st_law_begun) s.heap.objs.size f cdv)))  :
    PDSs G E (cxOf CX0 P w G.K mg base ["_law_reel_here", "_law_some", "_law_named", "_law_name", "_law_kind_here"] "_law_begun" (defScope st_law_begun) f cdv A outer s H E).nox (defBody st_law_begun) (w_law_begun c) :=
  (sds_cons (sd_set 1 (pd_callC F_law_names (hr.mono (by decide)) (ma_cons (pd_var 0) ma_nil)) sc_law_begun.nd)
  (sds_one (sd_ret (pd_lstH (ma_cons (pd_lcH [("_law_named", 2)] (blkOk_by (by kernel_rfl)) sc_law_begun.nd (mi_seq (pd_var 1)) (fun _ _ _ _ _ => (tg_nm 2 sc_law_begun.nd)) (fun _ _ _ _ _ => ts_nil) (fun _ _ _ _ _ => (pd_tup (ma_cons pd_str (ma_cons (pd_tup ma_nil) (ma_cons (pd_var 2) ma_nil)))))) (ma_cons (pd_lcH [("_law_name", 3), ("_law_kind_here", 4)] (blkOk_by (by kernel_rfl)) sc_law_begun.nd (mi_seq (pd_var 1)) (fun _ _ _ _ _ => (tg_tp (tgs_cons (tg_nm 3 sc_law_begun.nd) (tgs_cons (tg_nm 4 sc_law_begun.nd) tgs_nil)))) (fun _ _ _ _ _ => ts_nil) (fun _ _ _ _ _ => (pd_var 4))) ma_nil))))))
abbrev st_law_pick : Stmt := topS 43
theorem sc_law_pick : FnScope ["_law_reel_here", "_law_model", "_law_kind_here", "_law_some", "_law_term"] ["_law_reel_here", "_law_model", "_law_kind_here"] (defScope st_law_pick) := ⟨rfl, rfl, rfl, by decide +kernel, rfl, by decide +kernel, by decide +kernel⟩
set_option maxHeartbeats 4000000 in
theorem de_law_pick {P : Program} {w : World} {G : Gm} {mg : Str → Option Value} {base : Heap} {c : Cl} (hW : G.w = w) (B : Bl mg) (T : ClD G mg c) (F_law_draw : Cal P w G mg base 1 "_law_draw" (sp_law_draw c)) {f : Addr} (cdv : Value) (A : Around) (outer : List Env) (s : Shared) (H : Hp) (E : XK) (hr : Room 1 (A.deeper (envOfC "_law_pick" (defScope st_law_pick) s.heap.objs.size f cdv)))  :
    PDSs G E (cxOf CX0 P w G.K mg base ["_law_reel_here", "_law_model", "_law_kind_here", "_law_some", "_law_term"] "_law_pick" (defScope st_law_pick) f cdv A outer s H E).nox (defBody st_law_pick) (w_law_pick c) :=
  (sds_cons (sd_setLc 3 [("_law_term", 4)] (blkOk_by (by kernel_rfl)) sc_law_pick.nd (mi_r1 B.b_range (ma_cons (pd_callB call_LEN (cd_len rfl) B.b_len (by decide +kernel) (ma_cons (pd_ix (hu_of hr) (pd_var 1) pd_int) ma_nil)) ma_nil)) (fun _ _ _ _ _ => (tg_nm 4 sc_law_pick.nd)) (fun _ _ _ _ _ => (ts_one (pt_eq hr.units (pd_ix (hu_of hr) (pd_ix (hu_of hr) (pd_var 1) pd_int) (pd_var 4)) (pd_var 2)))) (fun _ _ _ _ _ => (pd_var 4)))
  (sds_one (sd_ret (pd_if (pt_ne hr.units (pd_var 3) (pd_lst ma_nil)) (pd_ix (hu_of hr) (pd_var 3) (pd_callC F_law_draw (hr.mono (by decide)) (ma_cons (pd_var 0) (ma_cons (pd_callB call_LEN (cd_len rfl) B.b_len (by decide +kernel) (ma_cons (pd_var 3) ma_nil)) ma_nil)))) pd_non))))
abbrev st_law_needs : Stmt := topS 44
theorem sc_law_needs : FnScope ["_law_reel_here", "_law_model", "_law_word", "_law_truth", "_law_kinds", "_law_any_kind", "_law_wides", "_law_arrays", "_law_wide", "_law_array", "_law_kind_here"] ["_law_reel_here", "_law_model", "_law_word"] (defScope st_law_needs) := ⟨rfl, rfl, rfl, by decide +kernel, rfl, by decide +kernel, by decide +kernel⟩
set_option maxHeartbeats 4000000 in
theorem de_law_needs {P : Program} {w : World} {G : Gm} {mg : Str → Option Value} {base : Heap} {c : Cl} (hW : G.w = w) (B : Bl mg) (T : ClD G mg c) (F_law_draw : Cal P w G mg base 1 "_law_draw" (sp_law_draw c)) {f : Addr} (cdv : Value) (A : Around) (outer : List Env) (s : Shared) (H : Hp) (E : XK) (hr : Room 1 (A.deeper (envOfC "_law_needs" (defScope st_law_needs) s.heap.objs.size f cdv)))  :
    PDSs G E (cxOf CX0 P w G.K mg base ["_law_reel_here", "_law_model", "_law_word", "_law_truth", "_law_kinds", "_law_any_kind", "_law_wides", "_law_arrays", "_law_wide", "_law_array", "_law_kind_here"] "_law_needs" (defScope st_law_needs) f cdv A outer s H E).nox (defBody st_law_needs) (w_law_needs c) :=
  (sds_cons (sd_set 3 (pd_tup (ma_cons pd_str ma_nil)) sc_law_needs.nd)
  (sds_cons (sd_set 4 (pd_ix (hu_of hr) (pd_var 1) pd_int) sc_law_needs.nd)
  (sds_cons (sd_set 5 (pd_ix (hu_of hr) (pd_var 4) (pd_callC F_law_draw (hr.mono (by decide)) (ma_cons (pd_var 0) (ma_cons (pd_callB call_LEN (cd_len rfl) B.b_len (by decide +kernel) (ma_cons (pd_var 4) ma_nil)) ma_nil)))) sc_law_needs.nd)
  (sds_cons (sd_setLc 6 [("_law_kind_here", 10)] (blkOk_by (by kernel_rfl)) sc_law_needs.nd (mi_seq (pd_var 4)) (fun _ _ _ _ _ => (tg_nm 10 sc_law_needs.nd)) (fun _ _ _ _ _ => (ts_one (pt_eq hr.units (pd_ix (hu_of hr) (pd_var 10) pd_int) pd_str))) (fun _ _ _ _ _ => (pd_var 10)))
  (sds_cons (sd_setLc 7 [("_law_kind_here", 10)] (blkOk_by (by kernel_rfl)) sc_law_needs.nd (mi_seq (pd_var 4)) (fun _ _ _ _ _ => (tg_nm 10 sc_law_needs.nd)) (fun _ _ _ _ _ => (ts_one (pt_eq hr.units (pd_ix (hu_of hr) (pd_var 10) pd_int) pd_str))) (fun _ _ _ _ _ => (pd_var 10)))
  (sds_cons (sd_set 8 (pd_ix (hu_of hr) (pd_var 6) (pd_callC F_law_draw (hr.mono (by decide)) (ma_cons (pd_var 0) (ma_cons (pd_callB call_LEN (cd_len rfl) B.b_len (by decide +kernel) (ma_cons (pd_var 6) ma_nil)) ma_nil)))) sc_law_needs.nd)
  (sds_cons (sd_set 9 (pd_ix (hu_of hr) (pd_var 7) (pd_callC F_law_draw (hr.mono (by decide)) (ma_cons (pd_var 0) (ma_cons (pd_callB call_LEN (cd_len rfl) B.b_len (by decide +kernel) (ma_cons (pd_var 7) ma_nil)) ma_nil)))) sc_law_needs.nd)
  (sds_cons (sd_if (pt_in (hu_of hr) (pd_var 2) (pd_tup (ma_cons pd_str (ma_cons pd_str (ma_cons pd_str ma_nil)))))
  (sds_one (sd_ret (pd_lst ma_nil)))
  sds_nil)
  (sds_cons (sd_if (pt_in (hu_of hr) (pd_var 2) (pd_tup (ma_cons pd_str (ma_cons pd_str (ma_cons pd_str ma_nil)))))
  (sds_one (sd_ret (pd_op op_MULT (od_mulA rfl) (pd_lst (ma_cons (pd_var 3) ma_nil)) (pd_op op_ADDT (od_addA rfl) pd_int (pd_callTy call_INT cd_int B.b_int (by decide +kernel) (ma_cons (pd_ne hr.units (pd_var 2) pd_str) ma_nil))))))
  sds_nil)
  (sds_cons (sd_if (pt_w (pw_or (pt_eq hr.units (pd_var 2) pd_str) (pw_or1 (pt_eq hr.units (pd_var 2) pd_str))))
  (sds_one (sd_ret (pd_op op_ADDT (od_addA rfl) (pd_slA (pd_lst (ma_cons (pd_var 3) ma_nil)) mo_none (mo_some (pd_callTy call_INT cd_int B.b_int (by decide +kernel) (ma_cons (pd_eq hr.units (pd_var 2) pd_str) ma_nil)))) (pd_lst (ma_cons (pd_var 5) (ma_cons (pd_var 5) ma_nil))))))
  sds_nil)
  (sds_cons (sd_if (pt_w (pw_or (pt_eq hr.units (pd_var 2) pd_str) (pw_or1 (pt_eq hr.units (pd_var 2) pd_str))))
  (sds_one (sd_ret (pd_lst (ma_cons (pd_var 8) ma_nil))))
  sds_nil)
  (sds_cons (sd_if (pt_eq hr.units (pd_var 2) pd_str)
  (sds_one (sd_ret (pd_lst (ma_cons (pd_var 8) (ma_cons (pd_ix (hu_of hr) (pd_var 6) (pd_callC F_law_draw (hr.mono (by decide)) (ma_cons (pd_var 0) (ma_cons (pd_callB call_LEN (cd_len rfl) B.b_len (by decide +kernel) (ma_cons (pd_var 6) ma_nil)) ma_nil)))) ma_nil)))))
  sds_nil)
  (sds_cons (sd_if (pt_w (pw_or (pt_eq hr.units (pd_var 2) pd_str) (pw_or1 (pt_eq hr.units (pd_var 2) pd_str))))
  (sds_one (sd_ret (pd_slA (pd_lst (ma_cons (pd_var 9) (ma_cons (pd_tup (ma_cons pd_str (ma_cons (pd_ix (hu_of hr) (pd_var 9) pd_int) ma_nil))) (ma_cons (pd_tup (ma_cons pd_str (ma_cons (pd_ix (hu_of hr) (pd_var 9) pd_int) ma_nil))) ma_nil)))) mo_none (mo_some (pd_op op_ADDT (od_addA rfl) pd_int (pd_callTy call_INT cd_int B.b_int (by decide +kernel) (ma_cons (pd_eq hr.units (pd_var 2) pd_str) ma_nil)))))))
  sds_nil)
  (sds_one (sd_ret (pd_lst (ma_cons (pd_var 8) (ma_cons (pd_var 8) ma_nil))))))))))))))))))
abbrev st_law_marks : Stmt := topS 45
theorem sc_law_marks : FnScope ["_law_reel_here", "_law_word", "_law_kinds", "_law_wide", "_law_high"] ["_law_reel_here", "_law_word", "_law_kinds"] (defScope st_law_marks) := ⟨rfl, rfl, rfl, by decide +kernel, rfl, by decide +kernel, by decide +kernel⟩
set_option maxHeartbeats 4000000 in
theorem de_law_marks {P : Program} {w : World} {G : Gm} {mg : Str → Option Value} {base : Heap} {c : Cl} (hW : G.w = w) (B : Bl mg) (T : ClD G mg c) (F_law_draw : Cal P w G mg base 1 "_law_draw" (sp_law_draw c)) {f : Addr} (cdv : Value) (A : Around) (outer : List Env) (s : Shared) (H : Hp) (E : XK) (hr : Room 1 (A.deeper (envOfC "_law_marks" (defScope st_law_marks) s.heap.objs.size f cdv)))  :
    PDSs G E (cxOf CX0 P w G.K mg base ["_law_reel_here", "_law_word", "_law_kinds", "_law_wide", "_law_high"] "_law_marks" (defScope st_law_marks) f cdv A outer s H E).nox (defBody st_law_marks) (w_law_marks c) :=
  (sds_cons (sd_if (pt_eq hr.units (pd_var 1) pd_str)
  (sds_cons (sd_set 3 (pd_ix (hu_of hr) (pd_lst (ma_cons (pd_op op_ADDT (od_addA rfl) pd_int (pd_callC F_law_draw (hr.mono (by decide)) (ma_cons (pd_var 0) (ma_cons pd_int ma_nil)))) (ma_cons pd_int ma_nil))) (pd_callC F_law_draw (hr.mono (by decide)) (ma_cons (pd_var 0) (ma_cons pd_int ma_nil)))) sc_law_marks.nd)
  (sds_one (sd_ret (pd_tup (ma_cons (pd_var 3) (ma_cons (pd_callC F_law_draw (hr.mono (by decide)) (ma_cons (pd_var 0) (ma_cons (pd_op op_shl od_shl pd_int (pd_var 3)) ma_nil))) ma_nil))))))
  sds_nil)
  (sds_cons (sd_if (pt_eq hr.units (pd_var 1) pd_str)
  (sds_cons (sd_set 4 (pd_callC F_law_draw (hr.mono (by decide)) (ma_cons (pd_var 0) (ma_cons (pd_ix (hu_of hr) (pd_ix (hu_of hr) (pd_var 2) pd_int) pd_int) ma_nil))) sc_law_marks.nd)
  (sds_one (sd_ret (pd_tup (ma_cons (pd_var 4) (ma_cons (pd_callC F_law_draw (hr.mono (by decide)) (ma_cons (pd_var 0) (ma_cons (pd_op op_ADDT (od_addA rfl) (pd_var 4) pd_int) ma_nil))) ma_nil))))))
  sds_nil)
  (sds_one (sd_ret (pd_tup ma_nil)))))
abbrev st_law_banked : Stmt := topS 48
theorem sc_law_banked : FnScope ["_law_model", "_law_bank", "_law_word", "_law_parts", "_law_tags"] ["_law_model"] (defScope st_law_banked) := ⟨rfl, rfl, rfl, by decide +kernel, rfl, by decide +kernel, by decide +kernel⟩
set_option maxHeartbeats 4000000 in
theorem de_law_banked {P : Program} {w : World} {G : Gm} {mg : Str → Option Value} {base : Heap} {c : Cl} (hW : G.w = w) (B : Bl mg) (T : ClD G mg c) (FBank_DinitD : CalI P w G mg base 1 c.Bank "Bank" (spBank_DinitD c)) (FBank_name : CalM P w G mg base 3 c.Bank NBank "name" (spBank_name c)) {f : Addr} (cdv : Value) (A : Around) (outer : List Env) (s : Shared) (H : Hp) (E : XK) (hr : Room 3 (A.deeper (envOfC "_law_banked" (defScope st_law_banked) s.heap.objs.size f cdv)))  :
    PDSs G E (cxOf CX0 P w G.K mg base ["_law_model", "_law_bank", "_law_word", "_law_parts", "_law_tags"] "_law_banked" (defScope st_law_banked) f cdv A outer s H E).nox (defBody st_law_banked) (w_law_banked c) :=
  (sds_cons (sd_set 1 (pd_make0C FBank_DinitD (hr.mono (by decide))) sc_law_banked.nd)
  (sds_cons (sd_for PassesOwn.never (mi_seq (pd_ix (hu_of hr) (pd_var 0) pd_int)) (gd_tp (gds_cons (gd_nm 2 sc_law_banked.nd) (gds_cons (gd_nm 3 sc_law_banked.nd) (gds_cons (gd_nm 4 sc_law_banked.nd) gds_nil))))
  (sds_one (sd_expr (pd_methC FBank_name (hr.mono (by decide)) (pd_var 1) (ma_cons (pd_ix (hu_of hr) (pd_var 4) pd_int) (ma_cons (pd_ix (hu_of hr) (pd_var 4) pd_int) ma_nil))))))
  (sds_one (sd_ret (pd_var 1)))))
abbrev st_law_order : Stmt := topS 49
theorem sc_law_order : FnScope ["_law_reel_here", "_law_model", "_law_left", "_law_found", "_law_free", "_law_term", "_law_part"] ["_law_reel_here", "_law_model"] (defScope st_law_order) := ⟨rfl, rfl, rfl, by decide +kernel, rfl, by decide +kernel, by decide +kernel⟩
set_option maxHeartbeats 4000000 in
theorem de_law_order {P : Program} {w : World} {G : Gm} {mg : Str → Option Value} {base : Heap} {c : Cl} (hW : G.w = w) (B : Bl mg) (T : ClD G mg c) (F_law_draw : Cal P w G mg base 1 "_law_draw" (sp_law_draw c)) {f : Addr} (cdv : Value) (A : Around) (outer : List Env) (s : Shared) (H : Hp) (E : XK) (hr : Room 1 (A.deeper (envOfC "_law_order" (defScope st_law_order) s.heap.objs.size f cdv)))  :
    PDSs G E (cxOf CX0 P w G.K mg base ["_law_reel_here", "_law_model", "_law_left", "_law_found", "_law_free", "_law_term", "_law_part"] "_law_order" (defScope st_law_order) f cdv A outer s H E).nox (defBody st_law_order) (w_law_order c) :=
  (sds_cons (sd_set 2 (pd_lstRH B.b_list B.b_range (pd_callB call_LEN (cd_len rfl) B.b_len (by decide +kernel) (ma_cons (pd_ix (hu_of hr) (pd_var 1) pd_int) ma_nil))) sc_law_order.nd)
  (sds_cons (sd_set 3 (pd_lstH ma_nil) sc_law_order.nd)
  (sds_cons (sd_while PassesOwn.never (pt_ne hr.units (pd_var 2) (pd_lst ma_nil))
  (sds_cons (sd_setLc 4 [("_law_term", 5)] (blkOk_by (by kernel_rfl)) sc_law_order.nd (mi_seq (pd_var 2)) (fun _ _ _ _ _ => (tg_nm 5 sc_law_order.nd)) (fun _ _ _ _ _ => (ts_one (pt_eq hr.units (pd_lc [("_law_part", 6)] (blkOk_by (by kernel_rfl)) sc_law_order.nd (mi_seq (pd_ix (hu_of hr) (pd_ix (hu_of hr) (pd_ix (hu_of hr) (pd_var 1) pd_int) (pd_var 5)) pd_int)) (fun _ _ _ _ _ => (tg_nm 6 sc_law_order.nd)) (fun _ _ _ _ _ => (ts_one (pt_in (hu_of hr) (pd_var 6) (pd_var 2)))) (fun _ _ _ _ _ => (pd_var 6))) (pd_lst ma_nil)))) (fun _ _ _ _ _ => (pd_var 5)))
  (sds_cons (sd_expr (pd_lm PySem.F.slot_list_append PySem.F.type_list_append mt_append md_app (pd_var 3) (ma_cons (pd_ix (hu_of hr) (pd_var 4) (pd_callC F_law_draw (hr.mono (by decide)) (ma_cons (pd_var 0) (ma_cons (pd_callB call_LEN (cd_len rfl) B.b_len (by decide +kernel) (ma_cons (pd_var 4) ma_nil)) ma_nil)))) ma_nil)))
  (sds_one (sd_expr (pd_lm PySem.F.slot_list_remove PySem.F.type_list_remove mt_remove md_rem (pd_var 2) (ma_cons (pd_ix (hu_of hr) (pd_var 3) (pd_un un_neg ud_neg pd_int)) ma_nil)))))))
  (sds_one (sd_ret (pd_var 3))))))
abbrev st_law_moved : Stmt := topS 50
theorem sc_law_moved : FnScope ["_law_bank", "_law_model", "_law_order_here", "_law_there", "_law_term", "_law_word", "_law_parts", "_law_tags", "_law_part"] ["_law_bank", "_law_model", "_law_order_here"] (defScope st_law_moved) := ⟨rfl, rfl, rfl, by decide +kernel, rfl, by decide +kernel, by decide +kernel⟩
set_option maxHeartbeats 4000000 in
theorem de_law_moved {P : Program} {w : World} {G : Gm} {mg : Str → Option Value} {base : Heap} {c : Cl} (hW : G.w = w) (B : Bl mg) (T : ClD G mg c) (FBank_name : CalM P w G mg base 3 c.Bank NBank "name" (spBank_name c)) (FGBank_make_3_m : CalG P w G mg base 5 c.Bank NBank "make" 3 ["marks"] [] [] (spBank_make c)) {f : Addr} (cdv : Value) (A : Around) (outer : List Env) (s : Shared) (H : Hp) (E : XK) (hr : Room 5 (A.deeper (envOfC "_law_moved" (defScope st_law_moved) s.heap.objs.size f cdv)))  :
    PDSs G E (cxOf CX0 P w G.K mg base ["_law_bank", "_law_model", "_law_order_here", "_law_there", "_law_term", "_law_word", "_law_parts", "_law_tags", "_law_part"] "_law_moved" (defScope st_law_moved) f cdv A outer s H E).nox (defBody st_law_moved) (w_law_moved c) :=
  (sds_cons (sd_set 3 pd_dic sc_law_moved.nd)
  (sds_cons (sd_for PassesOwn.never (mi_seq (pd_var 2)) (gd_nm 4 sc_law_moved.nd)
  (sds_cons (sd_asg (pd_ix (hu_of hr) (pd_ix (hu_of hr) (pd_var 1) pd_int) (pd_var 4)) (gd_tp (gds_cons (gd_nm 5 sc_law_moved.nd) (gds_cons (gd_nm 6 sc_law_moved.nd) (gds_cons (gd_nm 7 sc_law_moved.nd) gds_nil)))))
  (sds_one (sd_if (pt_eq hr.units (pd_var 5) pd_str)
  (sds_one (sd_asg (pd_methC FBank_name (hr.mono (by decide)) (pd_var 0) (ma_cons (pd_ix (hu_of hr) (pd_var 7) pd_int) (ma_cons (pd_ix (hu_of hr) (pd_var 7) pd_int) ma_nil))) (gd_sb (hu_of hr) (pd_var 3) (pd_var 4))))
  (sds_one (sd_asg (pd_methG FGBank_make_3_m (hr.mono (by decide)) (pd_var 0) (ma_cons (pd_var 5) (ma_cons (pd_lc [("_law_part", 8)] (blkOk_by (by kernel_rfl)) sc_law_moved.nd (mi_seq (pd_var 6)) (fun _ _ _ _ _ => (tg_nm 8 sc_law_moved.nd)) (fun _ _ _ _ _ => ts_nil) (fun _ _ _ _ _ => (pd_ix (hu_of hr) (pd_var 3) (pd_var 8)))) ma_nil)) (mk_cons (pd_var 7) mk_nil)) (gd_sb (hu_of hr) (pd_var 3) (pd_var 4))))))))
  (sds_one (sd_ret (pd_var 3)))))
abbrev st_law_kind : Stmt := topS 39
theorem sc_law_kind : FnScope ["_law_word", "_law_kinds", "_law_tags", "_law_many", "_law_wide", "_law_truth", "_law_fits", "_law_kind_here"] ["_law_word", "_law_kinds", "_law_tags"] (defScope st_law_kind) := ⟨rfl, rfl, rfl, by decide +kernel, rfl, by decide +kernel, by decide +kernel⟩
set_option maxHeartbeats 4000000 in
theorem de_law_kind {P : Program} {w : World} {G : Gm} {mg : Str → Option Value} {base : Heap} {c : Cl} (hW : G.w = w) (B : Bl mg) (T : ClD G mg c) (F_law_array_kind : Cal P w G mg base 1 "_law_array_kind" (sp_law_array_kind c)) {f : Addr} (cdv : Value) (A : Around) (outer : List Env) (s : Shared) (H : Hp) (E : XK) (hr : Room 1 (A.deeper (envOfC "_law_kind" (defScope st_law_kind) s.heap.objs.size f cdv)))  :
    PDSs G E (cxOf CX0 P w G.K mg base ["_law_word", "_law_kinds", "_law_tags", "_law_many", "_law_wide", "_law_truth", "_law_fits", "_law_kind_here"] "_law_kind" (defScope st_law_kind) f cdv A outer s H E).nox (defBody st_law_kind) (w_law_kind c) :=
  (sds_cons (sd_set 3 (pd_callB call_LEN (cd_len rfl) B.b_len (by decide +kernel) (ma_cons (pd_var 1) ma_nil)) sc_law_kind.nd)
  (sds_cons (sd_setLc 4 [("_law_kind_here", 7)] (blkOk_by (by kernel_rfl)) sc_law_kind.nd (mi_seq (pd_var 1)) (fun _ _ _ _ _ => (tg_nm 7 sc_law_kind.nd)) (fun _ _ _ _ _ => (ts_one (pt_eq hr.units (pd_ix (hu_of hr) (pd_var 7) pd_int) pd_str))) (fun _ _ _ _ _ => (pd_ix (hu_of hr) (pd_var 7) pd_int)))
  (sds_cons (sd_set 5 (pd_tup (ma_cons pd_str ma_nil)) sc_law_kind.nd)
  (sds_cons (sd_if (pt_eq hr.units (pd_var 0) pd_str)
  (sds_cons (sd_set 6 (pd_and (pd_eq hr.units (pd_var 3) pd_int) (pd_and (pd_eq hr.units (pd_callB call_LEN (cd_len rfl) B.b_len (by decide +kernel) (ma_cons (pd_var 2) ma_nil)) pd_int) (pd_and (pd_chn op_le od_le op_le od_le pd_int (pd_ix (hu_of hr) (pd_var 2) pd_int) pd_int) (pd_one (pd_chn op_le od_le op_lt od_lt pd_int (pd_ix (hu_of hr) (pd_var 2) pd_int) (pd_op op_shl od_shl pd_int (pd_callB (call_max2 rfl) cd_max2 B.b_max (by decide +kernel) (ma_cons pd_int (ma_cons (pd_callB (call_min2 rfl) cd_min2 B.b_min (by decide +kernel) (ma_cons pd_int (ma_cons (pd_ix (hu_of hr) (pd_var 2) pd_int) ma_nil))) ma_nil))))))))) sc_law_kind.nd)
  (sds_one (sd_ret (pd_if (pt_val (pd_var 6)) (pd_tup (ma_cons pd_str (ma_cons (pd_ix (hu_of hr) (pd_var 2) pd_int) ma_nil))) pd_non))))
  sds_nil)
  (sds_cons (sd_if (pt_eq hr.units (pd_var 0) pd_str)
  (sds_cons (sd_set 6 (pd_and (pd_eq hr.units (pd_var 3) pd_int) (pd_and (pd_ne hr.units (pd_var 4) (pd_lst ma_nil)) (pd_and (pd_eq hr.units (pd_callB call_LEN (cd_len rfl) B.b_len (by decide +kernel) (ma_cons (pd_var 2) ma_nil)) pd_int) (pd_one (pd_chn3 op_le od_le op_le od_le op_lt od_lt pd_int (pd_ix (hu_of hr) (pd_var 2) pd_int) (pd_ix (hu_of hr) (pd_var 2) pd_int) (pd_ix (hu_of hr) (pd_op op_ADDT (od_addA rfl) (pd_var 4) (pd_lst (ma_cons pd_int ma_nil))) pd_int)))))) sc_law_kind.nd)
  (sds_one (sd_ret (pd_if (pt_val (pd_var 6)) (pd_tup (ma_cons pd_str (ma_cons (pd_op op_ADDT (od_addA rfl) (pd_op op_sub od_sub (pd_ix (hu_of hr) (pd_var 2) pd_int) (pd_ix (hu_of hr) (pd_var 2) pd_int)) pd_int) ma_nil))) pd_non))))
  sds_nil)
  (sds_cons (sd_if (pt_ne hr.units (pd_var 2) (pd_tup ma_nil))
  (sds_one (sd_ret pd_non))
  sds_nil)
  (sds_cons (sd_if (pt_in (hu_of hr) (pd_var 0) (pd_tup (ma_cons pd_str (ma_cons pd_str (ma_cons pd_str (ma_cons pd_str (ma_cons pd_str ma_nil)))))))
  (sds_one (sd_ret (pd_if (pt_eq hr.units (pd_var 1) (pd_op op_MULT (od_mulA rfl) (pd_lst (ma_cons (pd_var 5) ma_nil)) (pd_get2 (hu_of hr) (pd_disp (.cons pd_str pd_int (.cons pd_str pd_int (.cons pd_str pd_int .nil)))) (pd_var 0) pd_int))) (pd_var 5) pd_non)))
  sds_nil)
  (sds_cons (sd_if (pt_eq hr.units (pd_var 0) pd_str)
  (sds_one (sd_ret (pd_if (pt_w (pw_and (pt_eq hr.units (pd_var 3) pd_int) (pw_and1 (pt_eq hr.units (pd_ix (hu_of hr) (pd_var 1) pd_int) (pd_ix (hu_of hr) (pd_var 1) pd_int))))) (pd_var 5) pd_non)))
  sds_nil)
  (sds_cons (sd_if (pt_eq hr.units (pd_var 0) pd_str)
  (sds_one (sd_ret (pd_if (pt_w (pw_and (pt_eq hr.units (pd_var 3) pd_int) (pw_and (pt_eq hr.units (pd_ix (hu_of hr) (pd_var 1) pd_int) (pd_var 5)) (pw_and1 (pt_eq hr.units (pd_ix (hu_of hr) (pd_var 1) pd_int) (pd_ix (hu_of hr) (pd_var 1) pd_int)))))) (pd_ix (hu_of hr) (pd_var 1) pd_int) pd_non)))
  sds_nil)
  (sds_cons (sd_if (pt_w (pw_or (pt_eq hr.units (pd_var 0) pd_str) (pw_or1 (pt_eq hr.units (pd_var 0) pd_str))))
  (sds_one (sd_ret (pd_callC F_law_array_kind (hr.mono (by decide)) (ma_cons (pd_var 0) (ma_cons (pd_var 1) ma_nil)))))
  sds_nil)
  (sds_cons (sd_if (pt_eq hr.units (pd_var 0) pd_str)
  (sds_one (sd_ret (pd_if (pt_w (pw_and (pt_eq hr.units (pd_var 3) pd_int) (pw_and1 (pt_eq hr.units (pd_callB call_LEN (cd_len rfl) B.b_len (by decide +kernel) (ma_cons (pd_var 4) ma_nil)) pd_int)))) (pd_ix (hu_of hr) (pd_var 1) pd_int) pd_non)))
  sds_nil)
  (sds_cons (sd_if (pt_w (pw_or (pt_ne hr.units (pd_var 3) pd_int) (pw_or1 (pt_ne hr.units (pd_callB call_LEN (cd_len rfl) B.b_len (by decide +kernel) (ma_cons (pd_var 4) ma_nil)) pd_int))))
  (sds_one (sd_ret pd_non))
  sds_nil)
  (sds_cons (sd_if (pt_eq hr.units (pd_var 0) pd_str)
  (sds_one (sd_ret (pd_if (pt_cmp op_lt od_lt (pd_callB (cr_sum rfl) (cd_sum rfl) B.b_sum (by decide +kernel) (ma_cons (pd_var 4) ma_nil)) pd_int) (pd_tup (ma_cons pd_str (ma_cons (pd_callB (cr_sum rfl) (cd_sum rfl) B.b_sum (by decide +kernel) (ma_cons (pd_var 4) ma_nil)) ma_nil))) pd_non)))
  sds_nil)
  (sds_cons (sd_if (pt_ne hr.units (pd_ix (hu_of hr) (pd_var 4) pd_int) (pd_ix (hu_of hr) (pd_var 4) pd_int))
  (sds_one (sd_ret pd_non))
  sds_nil)
  (sds_one (sd_ret (pd_if (pt_in (hu_of hr) (pd_var 0) (pd_tup (ma_cons pd_str (ma_cons pd_str ma_nil)))) (pd_var 5) (pd_ix (hu_of hr) (pd_var 1) pd_int))))))))))))))))))
abbrev st_law_good : Stmt := topS 46
theorem sc_law_good : FnScope ["_law_reel_here", "_law_model", "_law_word", "_law_needs_here", "_law_parts", "_law_tags", "_law_kind_here"] ["_law_reel_here", "_law_model"] (defScope st_law_good) := ⟨rfl, rfl, rfl, by decide +kernel, rfl, by decide +kernel, by decide +kernel⟩
set_option maxHeartbeats 4000000 in
theorem de_law_good {P : Program} {w : World} {G : Gm} {mg : Str → Option Value} {base : Heap} {c : Cl} (hW : G.w = w) (B : Bl mg) (T : ClD G mg c) (F_law_words : Cal P w G mg base 1 "_law_words" (sp_law_words c)) (F_law_draw : Cal P w G mg base 1 "_law_draw" (sp_law_draw c)) (F_law_needs : Cal P w G mg base 2 "_law_needs" (sp_law_needs c)) (F_law_pick : Cal P w G mg base 2 "_law_pick" (sp_law_pick c)) (F_law_marks : Cal P w G mg base 2 "_law_marks" (sp_law_marks c)) (F_law_kind : Cal P w G mg base 2 "_law_kind" (sp_law_kind c)) {f : Addr} (cdv : Value) (A : Around) (outer : List Env) (s : Shared) (H : Hp) (E : XK) (hr : Room 2 (A.deeper (envOfC "_law_good" (defScope st_law_good) s.heap.objs.size f cdv)))  :
    PDSs G E (cxOf CX0 P w G.K mg base ["_law_reel_here", "_law_model", "_law_word", "_law_needs_here", "_law_parts", "_law_tags", "_law_kind_here"] "_law_good" (defScope st_law_good) f cdv A outer s H E).nox (defBody st_law_good) (w_law_good c) :=
  (sds_cons (sd_set 2 (pd_ix (hu_of hr) (pd_call0C F_law_words (hr.mono (by decide))) (pd_callC F_law_draw (hr.mono (by decide)) (ma_cons (pd_var 0) (ma_cons pd_int ma_nil)))) sc_law_good.nd)
  (sds_cons (sd_set 3 (pd_callC F_law_needs (hr.mono (by decide)) (ma_cons (pd_var 0) (ma_cons (pd_var 1) (ma_cons (pd_var 2) ma_nil)))) sc_law_good.nd)
  (sds_cons (sd_setLc 4 [("_law_kind_here", 6)] (blkOk_by (by kernel_rfl)) sc_law_good.nd (mi_seq (pd_var 3)) (fun _ _ _ _ _ => (tg_nm 6 sc_law_good.nd)) (fun _ _ _ _ _ => ts_nil) (fun _ _ _ _ _ => (pd_callC F_law_pick (hr.mono (by decide)) (ma_cons (pd_var 0) (ma_cons (pd_var 1) (ma_cons (pd_var 6) ma_nil))))))
  (sds_cons (sd_set 5 (pd_callC F_law_marks (hr.mono (by decide)) (ma_cons (pd_var 0) (ma_cons (pd_var 2) (ma_cons (pd_var 3) ma_nil)))) sc_law_good.nd)
  (sds_cons (sd_if (pt_w (pw_or (pt_in (hu_of hr) pd_non (pd_var 4)) (pw_or1 (pt_cmp op_isN' od_isN (pd_callC F_law_kind (hr.mono (by decide)) (ma_cons (pd_var 2) (ma_cons (pd_var 3) (ma_cons (pd_var 5) ma_nil)))) pd_non))))
  (sds_one (sd_ret (pd_tup (ma_cons pd_str (ma_cons (pd_tup ma_nil) (ma_cons (pd_callC F_law_marks (hr.mono (by decide)) (ma_cons (pd_var 0) (ma_cons pd_str (ma_cons (pd_lst ma_nil) ma_nil)))) ma_nil))))))
  sds_nil)
  (sds_one (sd_ret (pd_tup (ma_cons (pd_var 2) (ma_cons (pd_callTy call_TUPLE (cd_tuple rfl) B.b_tuple (by decide +kernel) (ma_cons (pd_var 4) ma_nil)) (ma_cons (pd_var 5) ma_nil)))))))))))
abbrev st_law_taken : Stmt := topS 47
theorem sc_law_taken : FnScope ["_law_model", "_law_node", "_law_part"] ["_law_model", "_law_node"] (defScope st_law_taken) := ⟨rfl, rfl, rfl, by decide +kernel, rfl, by decide +kernel, by decide +kernel⟩
set_option maxHeartbeats 4000000 in
theorem de_law_taken {P : Program} {w : World} {G : Gm} {mg : Str → Option Value} {base : Heap} {c : Cl} (hW : G.w = w) (B : Bl mg) (T : ClD G mg c) (F_law_kind : Cal P w G mg base 2 "_law_kind" (sp_law_kind c)) {f : Addr} (cdv : Value) (A : Around) (outer : List Env) (s : Shared) (H : Hp) (E : XK) (hr : Room 2 (A.deeper (envOfC "_law_taken" (defScope st_law_taken) s.heap.objs.size f cdv)))  :
    PDSs G E (cxOf CX0 P w G.K mg base ["_law_model", "_law_node", "_law_part"] "_law_taken" (defScope st_law_taken) f cdv A outer s H E).nox (defBody st_law_taken) (w_law_taken c) :=
  (sds_cons (sd_if (pt_ninD (hu65 hr) (pd_var 1) (pd_ix (hu_of hr) (pd_var 0) pd_int))
  (sds_cons (sd_expr (pd_lm PySem.F.slot_list_append PySem.F.type_list_append mt_append md_app (pd_ix (hu_of hr) (pd_var 0) pd_int) (ma_cons (pd_var 1) ma_nil)))
  (sds_one (sd_expr (pd_lm PySem.F.slot_list_append PySem.F.type_list_append mt_append md_app (pd_ix (hu_of hr) (pd_var 0) pd_int) (ma_cons (pd_callC F_law_kind (hr.mono (by decide)) (ma_cons (pd_ix (hu_of hr) (pd_var 1) pd_int) (ma_cons (pd_lc [("_law_part", 2)] (blkOk_by (by kernel_rfl)) sc_law_taken.nd (mi_seq (pd_ix (hu_of hr) (pd_var 1) pd_int)) (fun _ _ _ _ _ => (tg_nm 2 sc_law_taken.nd)) (fun _ _ _ _ _ => ts_nil) (fun _ _ _ _ _ => (pd_ix (hu_of hr) (pd_ix (hu_of hr) (pd_var 0) pd_int) (pd_var 2)))) (ma_cons (pd_ix (hu_of hr) (pd_var 1) pd_int) ma_nil)))) ma_nil)))))
  sds_nil)
  (sds_one (sd_ret (pd_lm PySem.F.slot_list_index PySem.F.type_list_index (mt_indexD (hu65 hr)) (md_idxD rfl) (pd_ix (hu_of hr) (pd_var 0) pd_int) (ma_cons (pd_var 1) ma_nil)))))
abbrev stlaw : Stmt := topS 51
theorem sclaw : FnScope ["_law_script", "_law_reel_here", "_law_model", "_law_bank", "_law_k", "_law_other", "_law_there", "_law_term", "_law_again", "_law_node", "_law_word", "_law_parts", "_law_tags", "_law_part"] ["_law_script"] (defScope stlaw) := ⟨rfl, rfl, rfl, by decide +kernel, rfl, by decide +kernel, by decide +kernel⟩
set_option maxHeartbeats 4000000 in
theorem delaw {P : Program} {w : World} {G : Gm} {mg : Str → Option Value} {base : Heap} {c : Cl} (hW : G.w = w) (B : Bl mg) (T : ClD G mg c) (F_law_reel : Cal P w G mg base 1 "_law_reel" (sp_law_reel c)) (F_law_begun : Cal P w G mg base 3 "_law_begun" (sp_law_begun c)) (F_law_banked : Cal P w G mg base 4 "_law_banked" (sp_law_banked c)) (F_law_good : Cal P w G mg base 3 "_law_good" (sp_law_good c)) (FGBank_make_3_m : CalG P w G mg base 5 c.Bank NBank "make" 3 ["marks"] [] [] (spBank_make c)) (F_law_taken : Cal P w G mg base 3 "_law_taken" (sp_law_taken c)) (FBank_DinitD : CalI P w G mg base 1 c.Bank "Bank" (spBank_DinitD c)) (F_law_moved : Cal P w G mg base 6 "_law_moved" (sp_law_moved c)) (F_law_order : Cal P w G mg base 2 "_law_order" (sp_law_order c)) (FBank_DlenD : CalM P w G mg base 1 c.Bank NBank "__len__" (spBank_DlenD c)) (FBank_node : CalM P w G mg base 3 c.Bank NBank "node" (spBank_node c)) (FBank_kind : CalM P w G mg base 3 c.Bank NBank "kind" (spBank_kind c)) {f : Addr} (cdv : Value) (A : Around) (outer : List Env) (s : Shared) (H : Hp) (E : XK) (hr : Room 6 (A.deeper (envOfC "law" (defScope stlaw) s.heap.objs.size f cdv)))  :
    PDSs G E (cxOf CX0 P w G.K mg base ["_law_script", "_law_reel_here", "_law_model", "_law_bank", "_law_k", "_law_other", "_law_there", "_law_term", "_law_again", "_law_node", "_law_word", "_law_parts", "_law_tags", "_law_part"] "law" (defScope stlaw) f cdv A outer s H E).nox (defBody stlaw) (wlaw c) :=
  (sds_cons (sd_set 1 (pd_callC F_law_reel (hr.mono (by decide)) (ma_cons (pd_var 0) ma_nil)) sclaw.nd)
  (sds_cons (sd_set 2 (pd_callC F_law_begun (hr.mono (by decide)) (ma_cons (pd_var 1) ma_nil)) sclaw.nd)
  (sds_cons (sd_set 3 (pd_callC F_law_banked (hr.mono (by decide)) (ma_cons (pd_var 2) ma_nil)) sclaw.nd)
  (sds_cons (sd_for PassesOwn.never (mi_r1 B.b_range (ma_cons (pd_op op_ADDT (od_addA rfl) pd_int (pd_callB (call_min2 rfl) cd_min2 B.b_min (by decide +kernel) (ma_cons (pd_callB call_LEN (cd_len rfl) B.b_len (by decide +kernel) (ma_cons (pd_var 0) ma_nil)) (ma_cons pd_int ma_nil)))) ma_nil)) (gd_nm 4 sclaw.nd)
  (sds_cons (sd_set 9 (pd_callC F_law_good (hr.mono (by decide)) (ma_cons (pd_var 1) (ma_cons (pd_var 2) ma_nil))) sclaw.nd)
  (sds_one (sd_if (pt_ne hr.units (pd_methG FGBank_make_3_m (hr.mono (by decide)) (pd_var 3) (ma_cons (pd_ix (hu_of hr) (pd_var 9) pd_int) (ma_cons (pd_ix (hu_of hr) (pd_var 9) pd_int) ma_nil)) (mk_cons (pd_ix (hu_of hr) (pd_var 9) pd_int) mk_nil)) (pd_callC F_law_taken (hr.mono (by decide)) (ma_cons (pd_var 2) (ma_cons (pd_var 9) ma_nil))))
  (sds_one (sd_ret pd_bl))
  sds_nil))))
  (sds_cons (sd_set 5 (pd_make0C FBank_DinitD (hr.mono (by decide))) sclaw.nd)
  (sds_cons (sd_set 6 (pd_callC F_law_moved (hr.mono (by decide)) (ma_cons (pd_var 5) (ma_cons (pd_var 2) (ma_cons (pd_callC F_law_order (hr.mono (by decide)) (ma_cons (pd_var 1) (ma_cons (pd_var 2) ma_nil))) ma_nil)))) sclaw.nd)
  (sds_cons (sd_if (pt_w (pw_or (pt_ne hr.units (pd_callB (call_LENO FBank_DlenD (hr.mono (by decide)) rfl) cd_lenO B.b_len (by decide +kernel) (ma_cons (pd_var 5) ma_nil)) (pd_callB (call_LENO FBank_DlenD (hr.mono (by decide)) rfl) cd_lenO B.b_len (by decide +kernel) (ma_cons (pd_var 3) ma_nil))) (pw_or1 (pt_ne hr.units (pd_callB cr_sortedI (cd_sortI rfl) B.b_sorted (by decide +kernel) (ma_cons (pd_lockE (pd_lc [("_law_term", 7)] (blkOk_by (by kernel_rfl)) sclaw.nd (mi_kF (pd_var 6)) (fun _ _ _ _ _ => (tg_nm 7 sclaw.nd)) (fun _ _ _ _ _ => ts_nil) (fun _ _ _ _ _ => (pd_ixF (hu_of hr) (pd_var 6) (pd_var 7))))) ma_nil)) (pd_lstR B.b_list B.b_range (pd_callB (call_LENO FBank_DlenD (hr.mono (by decide)) rfl) cd_lenO B.b_len (by decide +kernel) (ma_cons (pd_var 3) ma_nil)))))))
  (sds_one (sd_ret pd_bl))
  sds_nil)
  (sds_cons (sd_for PassesOwn.never (mi_r1 B.b_range (ma_cons (pd_callB (call_LENO FBank_DlenD (hr.mono (by decide)) rfl) cd_lenO B.b_len (by decide +kernel) (ma_cons (pd_var 3) ma_nil)) ma_nil)) (gd_nm 7 sclaw.nd)
  (sds_cons (sd_asg (pd_methC FBank_node (hr.mono (by decide)) (pd_var 3) (ma_cons (pd_var 7) ma_nil)) (gd_tp (gds_cons (gd_nm 10 sclaw.nd) (gds_cons (gd_nm 11 sclaw.nd) (gds_cons (gd_nm 12 sclaw.nd) gds_nil)))))
  (sds_cons (sd_if (pt_ne hr.units (pd_methC FBank_node (hr.mono (by decide)) (pd_var 5) (ma_cons (pd_ix (hu_of hr) (pd_var 6) (pd_var 7)) ma_nil)) (pd_tup (ma_cons (pd_var 10) (ma_cons (pd_callTy call_TUPLE (cd_tuple rfl) B.b_tuple (by decide +kernel) (ma_cons (pd_lc [("_law_part", 13)] (blkOk_by (by kernel_rfl)) sclaw.nd (mi_seq (pd_var 11)) (fun _ _ _ _ _ => (tg_nm 13 sclaw.nd)) (fun _ _ _ _ _ => ts_nil) (fun _ _ _ _ _ => (pd_ix (hu_of hr) (pd_var 6) (pd_var 13)))) ma_nil)) (ma_cons (pd_var 12) ma_nil)))))
  (sds_one (sd_ret pd_bl))
  sds_nil)
  (sds_one (sd_if (pt_ne hr.units (pd_methC FBank_kind (hr.mono (by decide)) (pd_var 5) (ma_cons (pd_ix (hu_of hr) (pd_var 6) (pd_var 7)) ma_nil)) (pd_methC FBank_kind (hr.mono (by decide)) (pd_var 3) (ma_cons (pd_var 7) ma_nil)))
  (sds_one (sd_ret pd_bl))
  sds_nil)))))
  (sds_cons (sd_set 8 (pd_callC F_law_moved (hr.mono (by decide)) (ma_cons (pd_var 3) (ma_cons (pd_var 2) (ma_cons (pd_lstR B.b_list B.b_range (pd_callB (call_LENO FBank_DlenD (hr.mono (by decide)) rfl) cd_lenO B.b_len (by decide +kernel) (ma_cons (pd_var 3) ma_nil))) ma_nil)))) sclaw.nd)
  (sds_one (sd_ret (pd_eq hr.units (pd_lockE (pd_lc [("_law_term", 7)] (blkOk_by (by kernel_rfl)) sclaw.nd (mi_kF (pd_var 8)) (fun _ _ _ _ _ => (tg_nm 7 sclaw.nd)) (fun _ _ _ _ _ => (ts_one (pt_ne hr.units (pd_ixF (hu_of hr) (pd_var 8) (pd_var 7)) (pd_var 7)))) (fun _ _ _ _ _ => (pd_var 7)))) (pd_lst ma_nil)))))))))))))
end DL
namespace DL
set_option maxHeartbeats 2000000
open PySem PySem.Spec PyProof.Rows L2

local macro_rules | `(tactic| walk_at "s1") => `(tactic| first
  | with_reducible refine sSeq_i ?_
  | with_reducible refine mVar_i rfl ?_
  | with_reducible refine mC_i ?_
  | with_reducible refine maCons_i ?_
  | with_reducible refine maNil_i ?_
  | with_reducible refine mOp_i ?_
  | with_reducible refine mTest_i ?_
  | with_reducible refine sIf_i ?_
  | with_reducible refine sAs_i ?_
  | with_reducible refine gNm_i (by dsimp only [List.set_cons_zero, List.set_cons_succ, List.set_nil] <;> rfl) ?_
  | with_reducible refine tnm_i (by dsimp only [wipeD, List.set_cons_zero, List.set_cons_succ, List.set_nil] <;> rfl) ?_
  | with_reducible refine ttp_i rfl ?_
  | with_reducible refine ttc_i ?_
  | with_reducible refine ttn_i ?_
  | with_reducible refine mCall_i ?_
  | with_reducible refine mCa_i ?_
  | with_reducible refine onB_i ?_
  | with_reducible refine onI_i ?_
  | with_reducible refine onS_i ?_
  | with_reducible refine sRt_i ?_
  | with_reducible refine sEx_i ?_
  | with_reducible refine sNx_i ?_
  | with_reducible refine sRtN_i ?_
  | with_reducible refine sBk_i ?_
  | with_reducible refine sCt_i ?_
  | with_reducible refine sFor_i ?_
  | with_reducible refine sAug_i rfl ?_
  | with_reducible refine sSetFld_i ?_
  | with_reducible refine sAugFld_i ?_
  | with_reducible refine gTp_i rfl ?_
  | with_reducible refine gsCons_i ?_
  | with_reducible refine gsNil_i ?_
  | with_reducible refine gSb_i ?_
  | with_reducible refine mUn_i ?_
  | with_reducible refine mAnd_i ?_
  | with_reducible refine mOr_i ?_
  | with_reducible refine mNot_i ?_
  | with_reducible refine mAndV_i ?_
  | with_reducible refine mOrV_i ?_
  | with_reducible refine mNotV_i ?_
  | with_reducible refine mIf_i ?_
  | with_reducible refine mYes_i ?_
  | with_reducible refine mLst_i ?_
  | with_reducible refine mTup_i ?_
  | with_reducible refine mLstH_i ?_
  | with_reducible refine mDic_i ?_
  | with_reducible refine mMeth_i ?_
  | with_reducible refine mMeth0_i ?_
  | with_reducible refine mMake_i ?_
  | with_reducible refine mFld_i ?_
  | with_reducible refine mMe_i ?_
  | with_reducible refine mMe0_i ?_
  | with_reducible refine mGet1_i ?_
  | with_reducible refine mGet2_i ?_
  | with_reducible refine mSetd_i ?_
  | with_reducible refine mDPop1_i ?_
  | with_reducible refine mSl_i ?_
  | with_reducible refine mSlH_i ?_
  | with_reducible refine mSlStep_i ?_
  | with_reducible refine mSlStepA_i ?_
  | with_reducible refine moNone_i ?_
  | with_reducible refine moSome_i ?_
  | with_reducible refine mLenSet_i ?_
  | with_reducible refine mLc_i ?_
  | with_reducible refine mLcH_i ?_
  | with_reducible refine miSeq_i ?_
  | with_reducible refine miR1_i ?_
  | with_reducible refine miR2_i ?_
  | with_reducible refine miR3n_i ?_
  | with_reducible refine dIt_l ?_
  | with_reducible refine dIt_s ?_
  | with_reducible refine dIt_t ?_
  | with_reducible refine dII0_i ?_
  | with_reducible refine dAdd_i ?_
  | with_reducible refine dNeg_i ?_
  | with_reducible refine dEQ_i ?_
  | with_reducible refine dEQ_b ?_
  | with_reducible refine dIsN_i ?_
  | with_reducible refine dNotN_i ?_
  | with_reducible refine dLen_l ?_
  | with_reducible refine dLen_s ?_
  | with_reducible refine dLen_t ?_
  | with_reducible refine dInt_i ?_
  | with_reducible refine dInt_b ?_
  | with_reducible refine dII1_i ?_
  | with_reducible refine dList_l ?_
  | with_reducible refine dList_s ?_
  | with_reducible refine dList_t ?_
  | with_reducible refine dListH_l ?_
  | with_reducible refine dListH_s ?_
  | with_reducible refine dListH_t ?_
  | with_reducible refine dTuple_l ?_
  | with_reducible refine dTuple_t ?_
  | with_reducible refine dIsB_b ?_
  | with_reducible refine dIsB_n ?_
  | with_reducible refine dNotB_b ?_
  | with_reducible refine dNotB_n ?_
  | with_reducible refine mChn_i ?_
  | with_reducible refine mChn3_i ?_
  | with_reducible refine mSlA_i ?_
  | with_reducible refine mJoin_i ?_
  | with_reducible refine mMethG_i ?_
  | with_reducible refine miKF_i ?_
  | with_reducible refine miZipA_i ?_
  | with_reducible refine mDisp_i ?_
  | with_reducible refine mPrs_n ?_
  | with_reducible refine mPrs_c ?_
  | with_reducible refine gSbN_i ?_
  | with_reducible refine mDicN_i ?_
  | with_reducible refine miStr_i ?_
  | with_reducible refine dLE_i ?_
  | with_reducible refine dLE_s ?_
  | with_reducible refine dAddA_i ?_
  | with_reducible refine dEQ_s ?_
  | with_reducible refine dInKD_i ?_
  | with_reducible refine dSlA_l ?_
  | with_reducible refine dSlA_r ?_
  | with_reducible refine dSlA_t ?_
  | with_reducible refine And.intro (szN rfl) ?_
  | with_reducible refine ifT rfl ?_
  | with_reducible refine ifF rfl ?_)
local macro_rules | `(tactic| walk_at "s") => `(tactic| repeat walk_at "s1")

abbrev EndsOf (R : DQ) (xq : XQ) : DEnds := ⟨fun _ st' => R .non st', R, fun _ _ => False, fun _ _ => False, xq⟩
theorem cmx {i j : Int} (h1 : -(2 ^ 200) < i) (h2 : i < 2 ^ 200) (h3 : -(2 ^ 200) < j) (h4 : j < 2 ^ 200) : CMulX i j :=
  mulx_ok (a := 200) (b := 200) (by omega) (by omega) (by omega)
theorem cdw {i j : Int} (h1 : 0 < j) (h2 : j < 2 ^ 200) : CDivW i j := wide_div (b := 200) h1 (by omega) (by omega) (by omega)
theorem getElem?_set_same {α : Type} {l : List α} {i : Nat} {a : α} (h : l[i]? = some a) (b : α) : (l.set i b)[i]? = some b := List.getElem?_set_self (List.getElem?_eq_some_iff.mp h).1
theorem cpw {n : Nat} (h : n ≤ 1000) : CPow 1 (n : Int) := ⟨by omega, by omega, by decide⟩
/-! ### small ones -/
theorem pow8 {n : Nat} (h1 : 1 ≤ n) (h2 : n ≤ 8) : n = 1 ∨ n = 2 ∨ n = 3 ∨ n = 4 ∨ n = 5 ∨ n = 6 ∨ n = 7 ∨ n = 8 := by omega
theorem pow_le {n : Nat} (h2 : n ≤ 8) : (2 : Int) ^ n ≤ 256 := by
  have : n = 0 ∨ n = 1 ∨ n = 2 ∨ n = 3 ∨ n = 4 ∨ n = 5 ∨ n = 6 ∨ n = 7 ∨ n = 8 := by omega
  rcases this with rfl | rfl | rfl | rfl | rfl | rfl | rfl | rfl | rfl <;> decide
theorem pow_pos2 (n : Nat) : (0 : Int) < 2 ^ n := Int.pow_pos (by decide)
theorem nat_abs64 {x : Int} {n : Nat} (h2 : n ≤ 8) (x0 : 0 ≤ x) (x1 : x < 2 ^ n) : x.natAbs < 2 ^ 64 ∧ x ≤ 1000000 := by
  have hp := pow_le h2
  constructor <;> omega

/-! ### == of kinds, of flat rows -/
def Kd.ps : Kd → List PyData
  | .truth => [.str "truth"]
  | .word n => [.str "word", .int n]
  | .arr p n => [.str "array", .int p, .int n]
def Kd.py (k : Kd) : PyData := .tuple k.ps
theorem kd_py (k : Kd) : pyD k.d = some k.py := by cases k <;> rfl
theorem kd_pys : ∀ ks : List Kd, pyDs (ks.map Kd.d) = some (ks.map Kd.py)
  | [] => rfl
  | k :: ks => by simp only [List.map_cons, pyDs, kd_py, kd_pys ks]
theorem kd_lay (k : Kd) : k.py.canLay0 = true := by cases k <;> simp [Kd.py, Kd.ps, PyData.canLay0, PyData.canLayAll0] <;> decide +kernel
theorem kd_dep (k : Kd) : k.py.depth = 1 := by
  cases k <;> simp [Kd.py, Kd.ps, PyData.depth, PyData.depthAll]
theorem kd_lays : ∀ ks : List Kd, PyData.canLayAll0 (ks.map Kd.py) = true
  | [] => rfl
  | k :: ks => by simp only [List.map_cons, PyData.canLayAll0, kd_lay, kd_lays ks, Bool.and_self]
theorem kd_deps : ∀ ks : List Kd, PyData.depthAll (ks.map Kd.py) ≤ 1
  | [] => by simp [PyData.depthAll]
  | k :: ks => by
    simp only [List.map_cons, PyData.depthAll, kd_dep]
    have := kd_deps ks
    omega
theorem kd_shaped (k : Kd) : SeqAt.shaped k.py = true := by
  unfold SeqAt.shaped
  rw [kd_lay, kd_dep]; rfl
theorem kds_shaped (ks : List Kd) : SeqAt.shaped (.list (ks.map Kd.py)) = true := by
  unfold SeqAt.shaped
  have h1 : PyData.canLay0 (.list (ks.map Kd.py)) = true := by simp only [PyData.canLay0]; exact kd_lays ks
  have h2 : PyData.depth (.list (ks.map Kd.py)) ≤ 64 := by
    simp only [PyData.depth]
    have := kd_deps ks
    omega
  rw [h1, decide_eq_true h2]; rfl
theorem kd_eqv (a b : Kd) : PyData.eqv a.py b.py = decide (a = b) := by
  cases a with
  | truth => cases b <;> simp [Kd.py, Kd.ps, PyData.eqv, PyData.eqvAll] <;> decide
  | word n =>
    cases b with
    | truth => simp [Kd.py, Kd.ps, PyData.eqv, PyData.eqvAll]
    | word m => by_cases e : n = m <;> simp [Kd.py, Kd.ps, PyData.eqv, PyData.eqvAll, e] <;> omega
    | arr p m => simp [Kd.py, Kd.ps, PyData.eqv, PyData.eqvAll]
  | arr p n =>
    cases b with
    | truth => simp [Kd.py, Kd.ps, PyData.eqv, PyData.eqvAll]
    | word m => simp [Kd.py, Kd.ps, PyData.eqv, PyData.eqvAll]
    | arr q m =>
      by_cases e : p = q
      · by_cases e2 : n = m
        · subst e e2; simp [Kd.py, Kd.ps, PyData.eqv, PyData.eqvAll]
        · subst e; simp [Kd.py, Kd.ps, PyData.eqv, PyData.eqvAll, e2]; omega
      · simp [Kd.py, Kd.ps, PyData.eqv, PyData.eqvAll, e]; omega
theorem kds_eqv : ∀ as bs : List Kd, PyData.eqvAll (as.map Kd.py) (bs.map Kd.py) = decide (as = bs)
  | [], [] => rfl
  | [], _ :: _ => by simp [PyData.eqvAll]
  | _ :: _, [] => by simp [PyData.eqvAll]
  | a :: as, b :: bs => by
    simp only [List.map_cons, PyData.eqvAll, kd_eqv, kds_eqv as bs]
    by_cases e : a = b <;> by_cases e2 : as = bs <;> simp [e, e2]
section
variable {n : Bool} {st : Sto} {R : DQ}
theorem dEQ_kd {a b : Kd} (h : R (.bl (xorB n (decide (a = b)))) st) : dEQ n a.d b.d st R :=
  dEQ_p (kd_py a) (kd_py b) (kd_shaped a) (kd_shaped b) (by rw [kd_eqv]; exact h)
theorem dEQ_kds {as bs : List Kd} (h : R (.bl (xorB n (decide (as = bs)))) st) : dEQ n (.lst (as.map Kd.d)) (.lst (bs.map Kd.d)) st R :=
  dEQ_p (p := .list (as.map Kd.py)) (q := .list (bs.map Kd.py)) (by simp only [pyD, kd_pys, Option.map_some]) (by simp only [pyD, kd_pys, Option.map_some]) (kds_shaped as) (kds_shaped bs) (by
    have : PyData.eqv (.list (as.map Kd.py)) (.list (bs.map Kd.py)) = decide (as = bs) := by simp only [PyData.eqv]; exact kds_eqv as bs
    rw [this]; exact h)
/-- a flat row and () -/
theorem dEQ_nil {ms : List D} (hf' : ms.all flatM = true) (h : R (.bl (xorB n ms.isEmpty)) st) : dEQ n (.tup ms) (.tup []) st R := by
  have hf : ms.all flatD = true := by
    rw [List.all_eq_true] at hf' ⊢
    intro x hx
    have := hf' x hx
    cases x <;> first | rfl | (simp [flatM] at this)
  have hs : ms.all (fun d => match d with | .str x => PyData.strOk x | _ => true) = true := by
    rw [List.all_eq_true] at hf' ⊢
    intro x hx
    have := hf' x hx
    cases x <;> first | rfl | (simp [flatM] at this)
  have key : ∀ ms : List D, ms.all flatD = true → ms.all (fun d => match d with | .str x => PyData.strOk x | _ => true) = true → ∃ ps, pyDs ms = some ps ∧ PyData.canLayAll0 ps = true ∧ PyData.depthAll ps = 0 ∧ ps.isEmpty = ms.isEmpty := by
    intro ms
    induction ms with
    | nil => intro _ _; exact ⟨[], rfl, rfl, rfl, rfl⟩
    | cons m ms ih =>
      intro hf hs
      simp only [List.all_cons, Bool.and_eq_true] at hf hs
      obtain ⟨ps, e1, e2, e3, _⟩ := ih hf.2 hs.2
      obtain ⟨hm, _⟩ := hf
      obtain ⟨hx, _⟩ := hs
      cases m with
      | non => exact ⟨.none :: ps, by simp [pyDs, pyD, e1], by simp [PyData.canLayAll0, PyData.canLay0, e2], by simp [PyData.depthAll, PyData.depth, e3], rfl⟩
      | bl b => exact ⟨.bool b :: ps, by simp [pyDs, pyD, e1], by simp [PyData.canLayAll0, PyData.canLay0, e2], by simp [PyData.depthAll, PyData.depth, e3], rfl⟩
      | int b => exact ⟨.int b :: ps, by simp [pyDs, pyD, e1], by simp [PyData.canLayAll0, PyData.canLay0, e2], by simp [PyData.depthAll, PyData.depth, e3], rfl⟩
      | str b => exact ⟨.str b :: ps, by simp [pyDs, pyD, e1], by simp [PyData.canLayAll0, PyData.canLay0, e2]; exact hx, by simp [PyData.depthAll, PyData.depth, e3], rfl⟩
      | lst _ => simp at hm
      | tup _ => simp at hm
      | scr _ => simp at hm
      | hdl _ => simp at hm
      | raw _ => simp at hm
      | exc _ => simp at hm
  obtain ⟨ps, e1, e2, e3, e4⟩ := key ms hf hs
  refine dEQ_p (p := .tuple ps) (q := .tuple []) (by simp only [pyD, e1, Option.map_some]) rfl ?_ rfl ?_
  · unfold SeqAt.shaped
    have h1 : PyData.canLay0 (.tuple ps) = true := by simp only [PyData.canLay0]; exact e2
    have h2 : PyData.depth (.tuple ps) ≤ 64 := by simp only [PyData.depth, e3]; omega
    rw [h1, decide_eq_true h2]; rfl
  · have : PyData.eqv (.tuple ps) (.tuple []) = ms.isEmpty := by
      rw [← e4]
      cases ps <;> simp [PyData.eqv, PyData.eqvAll]
    rw [this]; exact h
end
/-! ### whole numbers -/
theorem sem_is_whole (c : Cl) : ∀ ds st R xq, spis_whole c ds st R xq → wis_whole c (EndsOf R xq) (startD ["thing", "least", "most"] ds) st := by
  rintro ds st R xq ⟨d, a, b, rfl, ht, k⟩
  show wis_whole c ⟨_, _, _, _, _⟩ [some d, some (.int a), some (.int b)] st
  unfold wis_whole
  walk_at "s"
  obtain ⟨t, e⟩ := Option.isSome_iff_exists.mp ht
  have off : ∀ {t : String}, tyD st d = some t → (kitB t "int" = some false) → isW d a b = false → R (.bl false) st := by
    intro t _ _ h2
    rw [h2] at k; exact k
  cases d with
  | int i =>
    refine ⟨"int", true, rfl, rfl, ?_⟩
    walk_at "s"
    refine ⟨"int", false, rfl, rfl, ?_⟩
    walk_at "s"
    rw [show isW (.int i) a b = (decide (a ≤ i) && decide (i ≤ b)) from rfl] at k
    by_cases q : a ≤ i
    · refine ifT (by simpa using q) ?_
      walk_at "s"
      rw [decide_eq_true q, Bool.true_and] at k
      exact k
    · refine ifF (by simpa using q) ?_
      rw [decide_eq_false q, Bool.false_and] at k
      exact k
  | bl i =>
    refine ⟨"bool", true, rfl, rfl, ?_⟩
    walk_at "s"
    refine ⟨"bool", true, rfl, rfl, ?_⟩
    walk_at "s"
    exact k
  | non => exact ⟨"NoneType", false, rfl, rfl, by walk_at "s"; exact k⟩
  | str _ => exact ⟨"str", false, rfl, rfl, by walk_at "s"; exact k⟩
  | lst _ => exact ⟨"list", false, rfl, rfl, by walk_at "s"; exact k⟩
  | scr _ => exact ⟨"list", false, rfl, rfl, by walk_at "s"; exact k⟩
  | tup _ => exact ⟨"tuple", false, rfl, rfl, by walk_at "s"; exact k⟩
  | hdl j =>
    have e2 := e
    simp only [tyD] at e2
    split at e2
    · cases e2; exact ⟨"list", false, e, rfl, by walk_at "s"; exact k⟩
    · cases e2; exact ⟨"dict", false, e, rfl, by walk_at "s"; exact k⟩
    · cases e2
  | raw _ => simp [tyD] at e
  | exc _ => simp [tyD] at e

/-! ### the rules -/
theorem at0 {x : D} {xs : List D} : atI (x :: xs) 0 = some x := by simp [atI, ixN]
theorem at1 {x y : D} {xs : List D} : atI (x :: y :: xs) 1 = some y := by
  have : (1 : Int) < (xs.length : Int) + 1 + 1 := by omega
  simp [atI, ixN, this]
theorem at2 {x y z : D} {xs : List D} : atI (x :: y :: z :: xs) 2 = some z := by
  have : (2 : Int) < (xs.length : Int) + 1 + 1 + 1 := by omega
  simp [atI, ixN, this]
def Kd.tag : Kd → Str | .truth => "truth" | .word _ => "word" | .arr _ _ => "array"
section
variable {st : Sto} {R : DQ}
theorem ixK0 {k : Kd} (h : R (.str k.tag) st) : dIx k.d (.int 0) st R := by cases k <;> exact dIx_t at0 h
theorem ixL0 {x : D} {xs : List D} (h : R x st) : dIx (.lst (x :: xs)) (.int 0) st R := dIx_l at0 h
theorem ixL1 {x y : D} {xs : List D} (h : R y st) : dIx (.lst (x :: y :: xs)) (.int 1) st R := dIx_l at1 h
theorem ixL2 {x y z : D} {xs : List D} (h : R z st) : dIx (.lst (x :: y :: z :: xs)) (.int 2) st R := dIx_l at2 h
theorem ixT0 {x : D} {xs : List D} (h : R x st) : dIx (.tup (x :: xs)) (.int 0) st R := dIx_t at0 h
theorem ixT1 {x y : D} {xs : List D} (h : R y st) : dIx (.tup (x :: y :: xs)) (.int 1) st R := dIx_t at1 h
theorem ixT2 {x y z : D} {xs : List D} (h : R z st) : dIx (.tup (x :: y :: z :: xs)) (.int 2) st R := dIx_t at2 h
end
theorem cut1 {α : Type} {x : α} {xs : List α} : ((x :: xs).drop (HT.sIx (xs.length + 1) 0 (some 1))).take (HT.sIx (xs.length + 1) (xs.length + 1) none - HT.sIx (xs.length + 1) 0 (some 1)) = xs := by
  have : HT.sIx (xs.length + 1) 0 (some 1) = 1 := by simp [HT.sIx]
  rw [this]
  have : HT.sIx (xs.length + 1) (xs.length + 1) none = xs.length + 1 := by simp [HT.sIx]
  rw [this]; simp
theorem cutD_from1 {x : D} {xs : List D} : cutD (x :: xs) (some 1) none = xs := cut1
theorem cutD_to1 {x : D} {xs : List D} : cutD (x :: xs) none (some 1) = [x] := by
  unfold cutD
  have : HT.sIx (x :: xs).length 0 none = 0 := by simp [HT.sIx]
  rw [this]
  have : HT.sIx (x :: xs).length (x :: xs).length (some 1) = 1 := by simp [HT.sIx]
  rw [this]; simp
theorem cutD_nil (lo hi : Option Int) : cutD [] lo hi = [] := by simp [cutD]
theorem cutD_to2 {xs : List D} : cutD xs none (some 2) = xs.take 2 := by
  unfold cutD
  have : HT.sIx xs.length 0 none = 0 := by simp [HT.sIx]
  rw [this]
  have : HT.sIx xs.length xs.length (some 2) = min 2 xs.length := by simp [HT.sIx]
  rw [this, Nat.sub_zero, List.drop_zero]
  by_cases q : 2 ≤ xs.length
  · rw [Nat.min_eq_left q]
  · rw [Nat.min_eq_right (by omega), List.take_of_length_le (Nat.le_refl _), List.take_of_length_le (by omega)]
theorem cutD_from2 {xs : List D} : cutD xs (some 2) none = xs.drop 2 := by
  unfold cutD
  have h1 : HT.sIx xs.length 0 (some 2) = min 2 xs.length := by simp [HT.sIx]
  have h2 : HT.sIx xs.length xs.length none = xs.length := by simp [HT.sIx]
  rw [h1, h2]
  by_cases q : 2 ≤ xs.length
  · rw [Nat.min_eq_left q, List.take_of_length_le (by simp)]
  · rw [Nat.min_eq_right (by omega)]
    simp
    omega
theorem sem_of_nothing (c : Cl) : ∀ ds st R xq, spof_nothing c ds st R xq → wof_nothing c (EndsOf R xq) (startD ["kinds", "marks"] ds) st := by
  rintro ds st R xq ⟨ks, ms, rfl, hf, k⟩
  show wof_nothing c ⟨_, _, _, _, _⟩ [some (.lst (ks.map Kd.d)), some (.tup ms)] st
  unfold wof_nothing
  unfold kNothing at k
  walk_at "s"
  refine dEQ_kds (bs := []) ?_
  walk_at "s"
  by_cases q : ks = []
  · refine ifT (by simpa [xorB] using q) ?_
    walk_at "s"
    refine dEQ_nil hf ?_
    walk_at "s"
    by_cases q2 : ms.isEmpty = true
    · rw [if_pos ⟨q, q2⟩] at k
      exact ifT (by simpa [xorB] using q2) (by walk_at "s"; exact k)
    · rw [if_neg (fun z => q2 z.2)] at k
      exact ifF (by simpa [xorB] using q2) (by walk_at "s"; exact k)
  · rw [if_neg (fun z => q z.1)] at k
    refine ifF (by simpa [xorB] using q) ?_
    walk_at "s"
    exact k
theorem sem_of_truth (c : Cl) : ∀ ds st R xq, spof_truth c ds st R xq → wof_truth c (EndsOf R xq) (startD ["kinds", "marks"] ds) st := by
  rintro ds st R xq ⟨ks, ms, rfl, hf, k⟩
  show wof_truth c ⟨_, _, _, _, _⟩ [some (.lst (ks.map Kd.d)), some (.tup ms)] st
  unfold wof_truth
  unfold kTruth at k
  walk_at "s"
  refine dEQ_kds (bs := [.truth]) ?_
  walk_at "s"
  by_cases q : ks = [.truth]
  · refine ifT (by simpa [xorB] using q) ?_
    walk_at "s"
    refine dEQ_nil hf ?_
    walk_at "s"
    by_cases q2 : ms.isEmpty = true
    · rw [if_pos ⟨q, q2⟩] at k
      exact ifT (by simpa [xorB] using q2) (by walk_at "s"; exact k)
    · rw [if_neg (fun z => q2 z.2)] at k
      exact ifF (by simpa [xorB] using q2) (by walk_at "s"; exact k)
  · rw [if_neg (fun z => q z.1)] at k
    refine ifF (by simpa [xorB] using q) ?_
    walk_at "s"
    exact k
theorem sem_of_truths (c : Cl) : ∀ ds st R xq, spof_truths c ds st R xq → wof_truths c (EndsOf R xq) (startD ["kinds", "marks"] ds) st := by
  rintro ds st R xq ⟨ks, ms, rfl, hf, k⟩
  show wof_truths c ⟨_, _, _, _, _⟩ [some (.lst (ks.map Kd.d)), some (.tup ms)] st
  unfold wof_truths
  unfold kTruths at k
  walk_at "s"
  refine dEQ_kds (bs := [.truth, .truth]) ?_
  walk_at "s"
  by_cases q : ks = [.truth, .truth]
  · refine ifT (by simpa [xorB] using q) ?_
    walk_at "s"
    refine dEQ_nil hf ?_
    walk_at "s"
    by_cases q2 : ms.isEmpty = true
    · rw [if_pos ⟨q, q2⟩] at k
      exact ifT (by simpa [xorB] using q2) (by walk_at "s"; exact k)
    · rw [if_neg (fun z => q2 z.2)] at k
      exact ifF (by simpa [xorB] using q2) (by walk_at "s"; exact k)
  · rw [if_neg (fun z => q z.1)] at k
    refine ifF (by simpa [xorB] using q) ?_
    walk_at "s"
    exact k
theorem sem_of_marks (c : Cl) : ∀ ds st R xq, spof_marks c ds st R xq → wof_marks c (EndsOf R xq) (startD ["kinds", "marks"] ds) st := by
  rintro ds st R xq ⟨ks, ms, rfl, hf, k⟩
  show wof_marks c ⟨_, _, _, _, _⟩ [some (.lst (ks.map Kd.d)), some (.tup ms)] st
  unfold wof_marks
  walk_at "s"
  refine dEQ_kds (bs := []) ?_
  walk_at "s"
  by_cases q : ks = []
  case neg =>
    refine ifT (by simpa [xorB] using q) ?_
    walk_at "s"
    have : kMarks ks ms = none := by cases ks with | nil => exact (q rfl).elim | cons _ _ => rfl
    rw [this] at k; exact k
  subst q
  refine ifF (by simp [xorB]) ?_
  walk_at "s"
  match ms, hf, k with
  | [], hf, k => exact k
  | [x], hf, k =>
    have e : ∀ a : D, kMarks [] [a] = none := fun a => by cases a <;> rfl
    rw [e] at k
    exact ifT rfl (by walk_at "s"; exact k)
  | _ :: _ :: _ :: r, hf, k =>
    refine ifT (by simp [xorB]; omega) ?_
    walk_at "s"
    have e : ∀ a b d : D, kMarks [] (a :: b :: d :: r) = none := fun a b d => by cases a <;> rfl
    rw [e] at k; exact k
  | [a, b], hf, k =>
    refine ifF rfl ?_
    walk_at "s"
    refine ixT0 ?_
    walk_at "s"
    have fa : flatM a = true := by simp at hf; exact hf.1
    have fb : flatM b = true := by simp at hf; exact hf.2
    have ty : ∀ d : D, flatM d = true → (tyD st d).isSome = true := fun d h => by cases d <;> first | rfl | (simp [flatM] at h)
    refine ⟨a, 1, 8, rfl, ty a fa, ?_⟩
    walk_at "s"
    cases a with
    | int i =>
      by_cases q1 : isW (.int i) 1 8 = true
      · refine ifF (by rw [q1]; rfl) ?_
        have hi : 1 ≤ i ∧ i ≤ 8 := by simpa [isW] using q1
        walk_at "s"
        refine ixT1 ?_
        walk_at "s"
        refine ixT0 ?_
        refine dII_i ⟨by omega, by omega, by decide⟩ ?_
        walk_at "s"
        rw [Int.one_mul]
        refine ⟨b, 0, _, rfl, ty b fb, ?_⟩
        walk_at "s"
        by_cases q2 : isW b 0 (2 ^ i.toNat - 1) = true
        · refine ifT q2 ?_
          walk_at "s"
          refine ixT0 ?_
          walk_at "s"
          have : kMarks [] [.int i, b] = some (.word i.toNat) := by simp only [kMarks]; rw [if_pos ⟨q1, q2⟩]
          rw [this] at k
          have e : (i.toNat : Int) = i := by omega
          simp only [optD, Kd.d, Kd.its, e] at k
          exact k
        · refine ifF (by simpa using q2) ?_
          walk_at "s"
          have : kMarks [] [.int i, b] = none := by simp only [kMarks]; rw [if_neg (fun z => q2 z.2)]
          rw [this] at k; exact k
      · refine ifT (by rw [Bool.eq_false_iff.mpr q1]; rfl) ?_
        walk_at "s"
        have : kMarks [] [.int i, b] = none := by simp only [kMarks]; rw [if_neg (fun z => q1 z.1)]
        rw [this] at k; exact k
    | bl i => exact k
    | non => simp [flatM] at fa
    | str _ => simp [flatM] at fa
    | lst _ => simp [flatM] at fa
    | scr _ => simp [flatM] at fa
    | tup _ => simp [flatM] at fa
    | hdl _ => simp [flatM] at fa
    | raw _ => simp [flatM] at fa
    | exc _ => simp [flatM] at fa
theorem sem_of_alike (c : Cl) : ∀ ds st R xq, spof_alike c ds st R xq → wof_alike c (EndsOf R xq) (startD ["kinds", "marks"] ds) st := by
  rintro ds st R xq ⟨ks, ms, rfl, hf, k⟩
  show wof_alike c ⟨_, _, _, _, _⟩ [some (.lst (ks.map Kd.d)), some (.tup ms)] st
  unfold wof_alike
  walk_at "s"
  match ks, k with
  | [], k => exact k
  | [_], k => exact k
  | _ :: _ :: _ :: r, k =>
    refine ifF (by simp [xorB]; omega) ?_
    walk_at "s"
    exact k
  | [a, b], k =>
    refine ifT rfl ?_
    walk_at "s"
    refine ixL0 ?_
    walk_at "s"
    refine ixL1 ?_
    refine dEQ_kd ?_
    walk_at "s"
    by_cases q : a = b
    · refine ifT (by simpa [xorB] using q) ?_
      walk_at "s"
      refine dEQ_nil hf ?_
      walk_at "s"
      simp only [kAlike] at k
      by_cases q2 : ms.isEmpty = true
      · rw [if_pos ⟨q, q2⟩] at k
        exact ifT (by simpa [xorB] using q2) (by walk_at "s"; exact k)
      · rw [if_neg (fun z => q2 z.2)] at k
        exact ifF (by simpa [xorB] using q2) (by walk_at "s"; exact k)
    · refine ifF (by simpa [xorB] using q) ?_
      walk_at "s"
      simp only [kAlike] at k
      rw [if_neg (fun z => q z.1)] at k
      exact k

section
variable {n : Bool} {st : Sto} {R : DQ}
/-- a kind's tag and "word" -/
theorem dEQ_tag {n : Bool} {k : Kd} {x : Str} {st : Sto} {R : DQ} (h : R (.bl (xorB n (decide (k.tag = x)))) st) : dEQ n (.str k.tag) (.str x) st R := h
end
theorem optD_non (o : Option Kd) : isNon (optD o) = o.isNone := by cases o <;> rfl
theorem kWords_none {ks : List Kd} {ms : List D} (h : kAlike ks ms = none) : kWords ks ms = none := by
  match ks, h with
  | [], _ => rfl
  | [a], _ => cases a <;> rfl
  | [a, b], h =>
    simp only [kAlike] at h
    by_cases q : a = b ∧ ms.isEmpty = true
    · rw [if_pos q] at h; cases h
    · cases a with
      | word n => simp only [kWords]; rw [if_neg q]
      | truth => rfl
      | arr _ _ => rfl
  | a :: b :: d :: r, _ => cases a <;> rfl
theorem sem_of_words (c : Cl) : ∀ ds st R xq, spof_words c ds st R xq → wof_words c (EndsOf R xq) (startD ["kinds", "marks"] ds) st := by
  rintro ds st R xq ⟨ks, ms, rfl, hf, k⟩
  show wof_words c ⟨_, _, _, _, _⟩ [some (.lst (ks.map Kd.d)), some (.tup ms)] st
  unfold wof_words
  walk_at "s"
  refine ⟨ks, ms, rfl, hf, ?_⟩
  walk_at "s"
  rw [optD_non]
  cases e : kAlike ks ms with
  | none =>
    refine ifT rfl ?_
    walk_at "s"
    have : kWords ks ms = none := kWords_none e
    rw [this] at k; exact k
  | some t =>
    refine ifF rfl ?_
    unfold kAlike at e
    split at e
    · split at e
      · rename_i a b q
        obtain ⟨rfl, q2⟩ := q
        walk_at "s"
        refine ixL0 ?_
        walk_at "s"
        refine ixK0 ?_
        walk_at "s"
        cases a with
        | word m =>
          refine ifF rfl ?_
          walk_at "s"
          refine ixL0 ?_
          have e9 : kWords [.word m, .word m] ms = some (.word m) := by simp [kWords, q2]
          rw [e9] at k
          exact k
        | truth =>
          refine ifT rfl ?_
          walk_at "s"
          exact k
        | arr _ _ =>
          refine ifT rfl ?_
          walk_at "s"
          exact k
      · cases e
    · cases e
theorem sem_of_less (c : Cl) : ∀ ds st R xq, spof_less c ds st R xq → wof_less c (EndsOf R xq) (startD ["kinds", "marks"] ds) st := by
  rintro ds st R xq ⟨ks, ms, rfl, hf, k⟩
  show wof_less c ⟨_, _, _, _, _⟩ [some (.lst (ks.map Kd.d)), some (.tup ms)] st
  unfold wof_less
  walk_at "s"
  refine ⟨ks, ms, rfl, hf, ?_⟩
  walk_at "s"
  rw [optD_non]
  unfold kLess at k
  cases e : kWords ks ms with
  | none =>
    rw [e] at k
    exact ifT rfl (by walk_at "s"; exact k)
  | some t =>
    rw [e] at k
    exact ifF rfl (by walk_at "s"; exact k)
theorem sem_of_choice (c : Cl) : ∀ ds st R xq, spof_choice c ds st R xq → wof_choice c (EndsOf R xq) (startD ["kinds", "marks"] ds) st := by
  rintro ds st R xq ⟨ks, ms, rfl, hf, k⟩
  show wof_choice c ⟨_, _, _, _, _⟩ [some (.lst (ks.map Kd.d)), some (.tup ms)] st
  unfold wof_choice
  walk_at "s"
  cases ks with
  | nil =>
    rw [List.map_nil, cutD_nil]
    refine dEQ_kds (as := []) (bs := [.truth]) ?_
    walk_at "s"
    exact k
  | cons t ks =>
    rw [List.map_cons, cutD_to1]
    refine dEQ_kds (as := [t]) (bs := [.truth]) ?_
    walk_at "s"
    by_cases q : t = .truth
    · subst q
      refine ifF rfl ?_
      walk_at "s"
      rw [cutD_from1]
      refine ⟨ks, ms, rfl, hf, ?_⟩
      walk_at "s"
      rw [optD_non]
      match ks, k with
      | [], k => exact ifT rfl (by walk_at "s"; exact k)
      | [_], k => exact ifT rfl (by walk_at "s"; exact k)
      | _ :: _ :: _ :: _, k => exact ifT rfl (by walk_at "s"; exact k)
      | [a, b], k =>
        simp only [kChoice] at k
        by_cases q : a = b ∧ ms.isEmpty = true
        · rw [if_pos q] at k
          refine ifF (by simp only [kAlike]; rw [if_pos q]; rfl) ?_
          walk_at "s"
          exact ixL1 k
        · rw [if_neg q] at k
          refine ifT (by simp only [kAlike]; rw [if_neg q]; rfl) ?_
          walk_at "s"
          exact k
    · refine ifT (by simpa [xorB] using q) ?_
      walk_at "s"
      have : kChoice (t :: ks) ms = none := by
        unfold kChoice
        split
        · rename_i h; cases h; exact (q rfl).elim
        · rfl
      rw [this] at k; exact k
theorem sem_of_word (c : Cl) : ∀ ds st R xq, spof_word c ds st R xq → wof_word c (EndsOf R xq) (startD ["kinds", "marks"] ds) st := by
  rintro ds st R xq ⟨ks, ms, rfl, hf, k⟩
  show wof_word c ⟨_, _, _, _, _⟩ [some (.lst (ks.map Kd.d)), some (.tup ms)] st
  unfold wof_word
  walk_at "s"
  match ks, k with
  | [], k => exact ifF rfl (by walk_at "s"; exact k)
  | _ :: _ :: r, k =>
    refine ifF (by simp [xorB]; omega) ?_
    walk_at "s"
    have : ∀ a b : Kd, kWord (a :: b :: r) ms = none := fun a b => by cases a <;> rfl
    rw [this] at k; exact k
  | [a], k =>
    refine ifT rfl ?_
    walk_at "s"
    refine ixL0 ?_
    walk_at "s"
    refine ixK0 ?_
    walk_at "s"
    cases a with
    | word m =>
      refine ifT rfl ?_
      walk_at "s"
      refine dEQ_nil hf ?_
      walk_at "s"
      simp only [kWord] at k
      by_cases q2 : ms.isEmpty = true
      · rw [if_pos q2] at k
        exact ifT (by simpa [xorB] using q2) (by walk_at "s"; exact ixL0 k)
      · rw [if_neg q2] at k
        exact ifF (by simpa [xorB] using q2) (by walk_at "s"; exact k)
    | truth => exact ifF rfl (by walk_at "s"; exact k)
    | arr _ _ => exact ifF rfl (by walk_at "s"; exact k)
theorem kWord_nil {ks : List Kd} : (kWord ks []).isNone = true ∨ ∃ m, ks = [.word m] := by
  match ks with
  | [] => exact .inl rfl
  | [.word m] => exact .inr ⟨m, rfl⟩
  | [.truth] => exact .inl rfl
  | [.arr _ _] => exact .inl rfl
  | a :: b :: r => exact .inl (by cases a <;> rfl)
theorem sem_of_cut (c : Cl) : ∀ ds st R xq, spof_cut c ds st R xq → wof_cut c (EndsOf R xq) (startD ["kinds", "marks"] ds) st := by
  rintro ds st R xq ⟨ks, ms, rfl, hf, k⟩
  show wof_cut c ⟨_, _, _, _, _⟩ [some (.lst (ks.map Kd.d)), some (.tup ms)] st
  unfold wof_cut
  walk_at "s"
  refine ⟨ks, [], rfl, rfl, ?_⟩
  walk_at "s"
  rw [optD_non]
  rcases kWord_nil (ks := ks) with q | ⟨m, rfl⟩
  · refine ifT q ?_
    walk_at "s"
    have : kCut ks ms = none := by
      unfold kCut
      split
      · simp [kWord] at q
      · rfl
    rw [this] at k; exact k
  refine ifF rfl ?_
  walk_at "s"
  have none_of : (∀ h l, ms ≠ [.int h, .int l]) → kCut [.word m] ms = none := fun z => by
    unfold kCut
    split
    · rename_i h l e; cases e; exact (z h l rfl).elim
    · rfl
  match ms, hf, k, none_of with
  | [], hf, k, _ => exact ifT rfl (by walk_at "s"; exact k)
  | [x], hf, k, no => exact ifT rfl (by walk_at "s"; rw [no (fun _ _ e => by cases e)] at k; exact k)
  | _ :: _ :: _ :: r, hf, k, no =>
    refine ifT (by simp [xorB]; omega) ?_
    walk_at "s"
    rw [no (fun _ _ e => by cases e)] at k; exact k
  | [a, b], hf, k, no =>
    refine ifF rfl ?_
    walk_at "s"
    refine ixT0 ?_
    walk_at "s"
    refine ixL0 ?_
    walk_at "s"
    refine dIx_t at1 ?_
    walk_at "s"
    have fa : flatM a = true := by simp at hf; exact hf.1
    have fb : flatM b = true := by simp at hf; exact hf.2
    have ty : ∀ d : D, flatM d = true → (tyD st d).isSome = true := fun d h => by cases d <;> first | rfl | (simp [flatM] at h)
    refine ⟨a, 0, _, rfl, ty a fa, ?_⟩
    walk_at "s"
    cases a with
    | int h =>
      by_cases q1 : isW (.int h) 0 (m - 1) = true
      · refine ifF (by rw [q1]; rfl) ?_
        walk_at "s"
        refine ixT1 ?_
        walk_at "s"
        refine ixT0 ?_
        walk_at "s"
        refine ⟨b, 0, h, rfl, ty b fb, ?_⟩
        walk_at "s"
        cases b with
        | int l =>
          simp only [kCut] at k
          by_cases q2 : isW (.int l) 0 h = true
          · refine ifT q2 ?_
            walk_at "s"
            refine ixT0 ?_
            walk_at "s"
            refine ixT1 ?_
            walk_at "s"
            rw [if_pos ⟨q1, q2⟩] at k
            have hl : 0 ≤ l ∧ l ≤ h := by simpa [isW] using q2
            have e : ((h - l + 1).toNat : Int) = h - l + 1 := by omega
            simp only [optD, Kd.d, Kd.its, e] at k
            exact k
          · refine ifF (by simpa using q2) ?_
            walk_at "s"
            rw [if_neg (fun z => q2 z.2)] at k
            exact k
        | bl _ => exact ifF rfl (by walk_at "s"; exact k)
        | non => simp [flatM] at fb
        | str _ => simp [flatM] at fb
        | lst _ => simp [flatM] at fb
        | scr _ => simp [flatM] at fb
        | tup _ => simp [flatM] at fb
        | hdl _ => simp [flatM] at fb
        | raw _ => simp [flatM] at fb
        | exc _ => simp [flatM] at fb
      · refine ifT (by rw [Bool.eq_false_iff.mpr q1]; rfl) ?_
        walk_at "s"
        have : kCut [.word m] [.int h, b] = none := by
          cases b with
          | int l => simp only [kCut]; rw [if_neg (fun z => q1 z.1)]
          | _ => rfl
        rw [this] at k; exact k
    | bl _ => exact ifT rfl (by walk_at "s"; exact k)
    | non => simp [flatM] at fa
    | str _ => simp [flatM] at fa
    | lst _ => simp [flatM] at fa
    | scr _ => simp [flatM] at fa
    | tup _ => simp [flatM] at fa
    | hdl _ => simp [flatM] at fa
    | raw _ => simp [flatM] at fa
    | exc _ => simp [flatM] at fa

theorem ne_tw : ¬ ("truth" : Str) = "word" := by decide
theorem ne_aw : ¬ ("array" : Str) = "word" := by decide
theorem pyD_tup2 (n : Nat) : (Kd.word n).d = .tup [.str "word", .int n] := rfl
theorem sem_of_joined (c : Cl) : ∀ ds st R xq, spof_joined c ds st R xq → wof_joined c (EndsOf R xq) (startD ["kinds", "marks", "many", "kind"] ds) st := by
  rintro ds st R xq ⟨ks, ms, rfl, hf, k⟩
  show wof_joined c ⟨_, _, _, _, _⟩ [some (.lst (ks.map Kd.d)), some (.tup ms), none, none] st
  unfold wof_joined
  walk_at "s"
  have off : ∀ (ks : List Kd), ks.length ≠ 2 → kJoined ks ms = none := by
    intro ks h
    unfold kJoined
    split
    · simp at h
    · rfl
  by_cases hl : ks.length = 2
  case neg =>
    refine ifT (by simp [xorB]; omega) ?_
    walk_at "s"
    rw [off ks hl] at k; exact k
  refine ifF (by simp [xorB, hl]) ?_
  walk_at "s"
  obtain ⟨a, b, rfl⟩ : ∃ a b, ks = [a, b] := by
    match ks, hl with
    | [a, b], _ => exact ⟨a, b, rfl⟩
  refine dEQ_nil hf ?_
  walk_at "s"
  by_cases q2 : ms.isEmpty = true
  case neg =>
    refine ifT (by simpa [xorB] using q2) ?_
    walk_at "s"
    have : kJoined [a, b] ms = none := by
      cases a with
      | word n => cases b with
        | word m => simp [kJoined, q2]
        | _ => rfl
      | _ => rfl
    rw [this] at k; exact k
  refine ifF (by simpa [xorB] using q2) ?_
  walk_at "s"
  -- the kinds that are no words
  refine lcD_ind (fun xs acc st' => st' = st ∧ ∃ done left : List Kd, [a, b] = done ++ left ∧ xs = left.map Kd.d ∧ acc = (done.filter fun k => decide (k.tag ≠ ("word" : Str))).map Kd.d) ?_ ?_ _ _ _ ⟨rfl, [], [a, b], rfl, rfl, rfl⟩
  · rintro acc st' ⟨rfl, done, left, e1, e2, rfl⟩
    refine ⟨trivial, ?_⟩
    have : left = [] := by cases left with | nil => rfl | cons _ _ => cases e2
    subst this
    rw [List.append_nil] at e1
    subst e1
    walk_at "s"
    refine dEQ_kds (bs := []) ?_
    walk_at "s"
    cases a with
    | word n =>
      cases b with
      | word m =>
        refine ifF (by simp [xorB, Kd.tag]) ?_
        walk_at "s"
        refine ixL0 ?_
        walk_at "s"
        refine dIx_t at1 ?_
        walk_at "s"
        refine ixL1 ?_
        walk_at "s"
        refine dIx_t at1 ?_
        walk_at "s"
        simp only [kJoined] at k
        by_cases q : n + m ≤ 8
        · rw [if_pos ⟨q2, q⟩] at k
          refine ifT (by simp; omega) ?_
          walk_at "s"
          simp only [optD, Kd.d, Kd.its] at k
          rw [Int.natCast_add] at k
          exact k
        · rw [if_neg (fun z => q z.2)] at k
          refine ifF (by simp; omega) ?_
          walk_at "s"
          exact k
      | truth => exact ifT (by simp [xorB, Kd.tag, ne_tw, ne_aw]) (by walk_at "s"; exact k)
      | arr _ _ => exact ifT (by simp [xorB, Kd.tag, ne_tw, ne_aw]) (by walk_at "s"; exact k)
    | truth => exact ifT (by simp [xorB, Kd.tag, ne_tw, ne_aw]) (by walk_at "s"; exact k)
    | arr _ _ => exact ifT (by simp [xorB, Kd.tag, ne_tw, ne_aw]) (by walk_at "s"; exact k)
  · rintro x xs acc st' K ⟨rfl, done, left, e1, e2, rfl⟩ hK
    refine ⟨trivial, ?_⟩
    cases left with
    | nil => cases e2
    | cons l left =>
    cases e2
    have hlen : done.length ≤ 2 := by
      have := congrArg List.length e1
      simp at this; omega
    walk_at "s"
    refine ixK0 ?_
    walk_at "s"
    by_cases q : l.tag = ("word" : Str)
    · refine ifF (by simp [xorB, q]) ?_
      exact hK _ _ ⟨rfl, done ++ [l], left, by rw [e1]; simp, rfl, by simp [List.filter_append, q]⟩
    · refine ifT (by simp [xorB, q]) ?_
      walk_at "s"
      refine ⟨?_, hK _ _ ⟨rfl, done ++ [l], left, by rw [e1]; simp, rfl, by simp [List.filter_append, q]⟩⟩
      have := List.length_filter_le (fun k : Kd => decide (k.tag ≠ ("word" : Str))) done
      rw [List.length_map]
      simp only [sizeLine]; omega
theorem sem_of_read (c : Cl) : ∀ ds st R xq, spof_read c ds st R xq → wof_read c (EndsOf R xq) (startD ["kinds", "marks"] ds) st := by
  rintro ds st R xq ⟨ks, ms, rfl, hf, k⟩
  show wof_read c ⟨_, _, _, _, _⟩ [some (.lst (ks.map Kd.d)), some (.tup ms)] st
  unfold wof_read
  walk_at "s"
  by_cases hl : ks.length = 2
  case neg =>
    refine ifT (by simp [xorB]; omega) ?_
    walk_at "s"
    have : kRead ks ms = none := by
      unfold kRead
      split
      · simp at hl
      · rfl
    rw [this] at k; exact k
  refine ifF (by simp [xorB, hl]) ?_
  walk_at "s"
  obtain ⟨a, b, rfl⟩ : ∃ a b, ks = [a, b] := by
    match ks, hl with
    | [a, b], _ => exact ⟨a, b, rfl⟩
  refine dEQ_nil hf ?_
  walk_at "s"
  by_cases q2 : ms.isEmpty = true
  case neg =>
    refine ifT (by simpa [xorB] using q2) ?_
    walk_at "s"
    have : kRead [a, b] ms = none := by
      cases a with
      | arr n m => cases b with
        | word m => simp [kRead, q2]
        | _ => rfl
      | _ => rfl
    rw [this] at k; exact k
  refine ifF (by simpa [xorB] using q2) ?_
  walk_at "s"
  refine ixL0 ?_
  walk_at "s"
  refine ixK0 ?_
  walk_at "s"
  cases a with
  | truth => exact ifT rfl (by walk_at "s"; exact k)
  | word _ => exact ifT rfl (by walk_at "s"; exact k)
  | arr p n =>
    refine ifF rfl ?_
    walk_at "s"
    refine ixL1 ?_
    walk_at "s"
    refine ixL0 ?_
    walk_at "s"
    refine dIx_t at1 ?_
    walk_at "s"
    refine dEQ_kd (b := .word p) ?_
    walk_at "s"
    by_cases q : b = .word p
    · subst q
      refine ifF (by simp [xorB]) ?_
      walk_at "s"
      refine ixL0 ?_
      walk_at "s"
      refine dIx_t at2 ?_
      walk_at "s"
      simp only [kRead] at k
      rw [if_pos ⟨q2, trivial⟩] at k
      exact k
    · refine ifT (by simpa [xorB] using q) ?_
      walk_at "s"
      have : kRead [.arr p n, b] ms = none := by
        cases b with
        | word m =>
          simp only [kRead]
          rw [if_neg]
          rintro ⟨_, rfl⟩
          exact q rfl
        | _ => rfl
      rw [this] at k; exact k
theorem sem_of_written (c : Cl) : ∀ ds st R xq, spof_written c ds st R xq → wof_written c (EndsOf R xq) (startD ["kinds", "marks"] ds) st := by
  rintro ds st R xq ⟨ks, ms, rfl, hf, k⟩
  show wof_written c ⟨_, _, _, _, _⟩ [some (.lst (ks.map Kd.d)), some (.tup ms)] st
  unfold wof_written
  walk_at "s"
  rw [cutD_to2, ← List.map_take]
  refine ⟨ks.take 2, ms, rfl, hf, ?_⟩
  walk_at "s"
  rw [optD_non]
  have no : kRead (ks.take 2) ms = none → kWritten ks ms = none := by
    intro h
    unfold kWritten
    split
    · rename_i p n q r ms'
      simp only [List.take, kRead] at h
      split at h
      · cases h
      · rename_i z
        rw [if_neg (fun y => z ⟨y.1, y.2.1⟩)]
    · rfl
  cases e : kRead (ks.take 2) ms with
  | none =>
    refine ifT rfl ?_
    walk_at "s"
    rw [no e] at k; exact k
  | some t =>
    refine ifF rfl ?_
    obtain ⟨p, n, rest, rfl, q2⟩ : ∃ p n rest, ks = .arr p n :: .word p :: rest ∧ ms.isEmpty = true := by
      match ks, e with
      | [], e => cases e
      | [a], e => cases a <;> cases e
      | a :: b :: rest, e =>
        simp only [List.take] at e
        cases a with
        | arr p n => cases b with
          | word m =>
            simp only [kRead] at e
            split at e
            · rename_i z
              exact ⟨p, n, rest, by rw [z.2], z.1⟩
            · cases e
          | truth => cases e
          | arr _ _ => cases e
        | truth => cases e
        | word _ => cases e
    walk_at "s"
    rw [cutD_from2, ← List.map_drop]
    walk_at "s"
    refine ixL0 ?_
    walk_at "s"
    refine dIx_t at2 ?_
    walk_at "s"
    refine dEQ_kds (as := rest) (bs := [.word n]) ?_
    walk_at "s"
    by_cases q : rest = [.word n]
    · subst q
      refine ifF (by simp [xorB]) ?_
      walk_at "s"
      refine ixL0 ?_
      have : kWritten [.arr p n, .word p, .word n] ms = some (.arr p n) := by simp [kWritten, q2]
      rw [this] at k; exact k
    · refine ifT (by simpa [xorB] using q) ?_
      walk_at "s"
      have : kWritten (.arr p n :: .word p :: rest) ms = none := by
        unfold kWritten
        split
        · rename_i h
          cases h
          rw [if_neg]
          rintro ⟨_, _, rfl⟩
          exact q rfl
        · rfl
      rw [this] at k; exact k

/-! ### tables -/
inductive Par {α β γ : Type} (P : β → γ → Prop) : List (α × β) → List (α × γ) → Prop
  | nil : Par P [] []
  | cons {k : α} {b : β} {d : γ} {l : List (α × β)} {m : List (α × γ)} : P b d → Par P l m → Par P ((k, b) :: l) ((k, d) :: m)
theorem Par.look {β γ : Type} {P : β → γ → Prop} {w : Str} : ∀ {l : List (Str × β)} {m : List (Str × γ)}, Par P l m → (∃ b d, l.lookup w = some b ∧ m.lookup w = some d ∧ P b d) ∨ (l.lookup w = none ∧ m.lookup w = none) := by
  intro l m h
  induction h with
  | nil => exact .inr ⟨rfl, rfl⟩
  | @cons k b d l m hp _ ih =>
    by_cases e : (w == k) = true
    · exact .inl ⟨b, d, by simp [List.lookup, e], by simp [List.lookup, e], hp⟩
    · simpa [List.lookup, e] using ih
theorem par_rules (c : Cl) : Par (fun (a : Addr) (g : List Kd → List D → Option Kd) => (a, spRule g) ∈ cbRULES c) (tbRULES c) wordRules := by
  unfold tbRULES wordRules
  repeat' first
    | exact Par.nil
    | apply Par.cons
  all_goals (unfold cbRULES; simp [spof_nothing, spof_marks, spof_truth, spof_truths, spof_alike, spof_words, spof_less, spof_choice, spof_word, spof_joined, spof_cut, spof_read, spof_written])
theorem rules_some (c : Cl) (w : Str) : ((tbRULES c).lookup w).isSome = (ruleOf w).isSome := by
  unfold ruleOf
  rcases (par_rules c).look (w := w) with ⟨b, d, e1, e2, _⟩ | ⟨e1, e2⟩ <;> rw [e1, e2] <;> rfl
theorem sem_kind_by (c : Cl) : ∀ ds st R xq, spkind_by c ds st R xq → wkind_by c (EndsOf R xq) (startD ["word", "kinds", "marks", "rule"] ds) st := by
  rintro ds st R xq ⟨w, ks, ms, g, rfl, hg, hf, k⟩
  show wkind_by c ⟨_, _, _, _, _⟩ [some (.str w), some (.lst (ks.map Kd.d)), some (.tup ms), none] st
  unfold wkind_by
  walk_at "s"
  rcases (par_rules c).look (w := w) with ⟨a, g', e1, e2, hp⟩ | ⟨_, e2⟩
  · rw [show wordRules.lookup w = ruleOf w from rfl, hg] at e2
    cases e2
    refine dIxKD_i e1 ?_
    walk_at "s"
    refine mCallT_i rfl hp ?_
    walk_at "s"
    exact ⟨ks, ms, rfl, hf, k⟩
  · rw [show wordRules.lookup w = ruleOf w from rfl, hg] at e2
    cases e2
/-! ### names -/
theorem dIN_tupS {n : Bool} {x : Str} {ys : List Str} {st : Sto} {R : DQ} (h : R (.bl (if n then !(ys.any fun y => decide (y = x)) else ys.any fun y => decide (y = x))) st) : dIN n (.str x) (.tup (ys.map D.str)) st R := by
  have e : (ys.map D.str).any (fun y => eqFD y (.str x)) = ys.any fun y => decide (y = x) := by
    rw [List.any_map]
    congr 1
  refine ⟨rfl, by rw [List.all_map]; simp [Function.comp_def], ?_⟩
  rw [e]; exact h
theorem len_cps (x : Str) : x.cps.toList.length = x.length := rfl
theorem letters_eq : (("abcdefghijklmnopqrstuvwxyz" : Str)).cps.toList = letterL := by decide +kernel
theorem sem_is_name (c : Cl) : ∀ ds st R xq, spis_name c ds st R xq → wis_name c (EndsOf R xq) (startD ["text", "sign"] ds) st := by
  rintro ds st R xq ⟨x, rfl, hl, k⟩
  show wis_name c ⟨_, _, _, _, _⟩ [some (.str x), none] st
  unfold wis_name
  walk_at "s"
  refine ⟨"str", true, rfl, rfl, ?_⟩
  walk_at "s"
  refine ⟨by simp only [sizeLine]; omega, ?_⟩
  walk_at "s"
  unfold isNm at k
  by_cases h1 : 1 ≤ x.length
  case neg =>
    refine ifF (by simp; omega) ?_
    walk_at "s"
    rw [decide_eq_false h1] at k; exact k
  refine ifT (by simp; omega) ?_
  walk_at "s"
  by_cases h2 : x.length ≤ 8
  case neg =>
    refine ifT (by simp; omega) ?_
    walk_at "s"
    rw [decide_eq_false h2] at k
    simp only [Bool.and_false, Bool.false_and] at k
    exact k
  refine ifF (by simp; omega) ?_
  walk_at "s"
  rw [decide_eq_true h1, decide_eq_true h2] at k
  simp only [Bool.true_and] at k
  cases hr : (ruleOf x).isSome with
  | true =>
    refine ifT (by rw [rules_some, hr]; rfl) ?_
    walk_at "s"
    rw [hr] at k
    simp only [Bool.not_true, Bool.false_and] at k
    exact k
  | false =>
  refine ifF (by rw [rules_some, hr]; rfl) ?_
  walk_at "s"
  refine dIN_tupS (ys := ["name", "array"]) ?_
  walk_at "s"
  rw [hr] at k
  simp only [Bool.not_false, Bool.true_and] at k
  by_cases h3 : x = "name"
  · refine ifT (by simp [h3]) ?_
    walk_at "s"
    rw [decide_eq_true h3] at k
    simp only [Bool.not_true, Bool.false_and] at k
    exact k
  by_cases h4 : x = "array"
  · refine ifT (by simp [h4]) ?_
    walk_at "s"
    rw [decide_eq_true h4] at k
    simp only [Bool.not_true, Bool.and_false, Bool.false_and] at k
    exact k
  refine ifF (by simp [Ne.symm h3, Ne.symm h4]) ?_
  walk_at "s"
  rw [decide_eq_false h3, decide_eq_false h4] at k
  simp only [Bool.not_false, Bool.true_and] at k
  refine lcD_ind (fun xs acc st' => st' = st ∧ ∃ done left : List Nat, x.cps.toList = done ++ left ∧ xs = left.map (fun c => D.str ⟨#[c]⟩) ∧ acc = (done.map fun c => decide (c ∈ letterL)).map D.bl) ?_ ?_ _ _ _ ⟨rfl, [], _, rfl, rfl, rfl⟩
  · rintro acc st' ⟨rfl, done, left, e1, e2, rfl⟩
    refine ⟨trivial, ?_⟩
    have : left = [] := by cases left with | nil => rfl | cons _ _ => cases e2
    subst this
    rw [List.append_nil] at e1
    walk_at "s"
    refine dAll_l ?_
    rw [e1] at k
    rw [List.all_map]
    exact k
  · rintro y xs acc st' K ⟨rfl, done, left, e1, e2, rfl⟩ hK
    refine ⟨trivial, ?_⟩
    cases left with
    | nil => cases e2
    | cons l left =>
    cases e2
    walk_at "s"
    refine dIN_sign ?_
    rw [letters_eq]
    have hlen : done.length ≤ 8 := by
      have := congrArg List.length e1
      rw [len_cps] at this
      simp at this; omega
    refine ⟨by simp only [List.length_map, sizeLine]; omega, hK _ _ ⟨rfl, done ++ [l], left, by rw [e1]; simp, rfl, by simp⟩⟩
/-! ### the bank -/
theorem ints_nk (ps : List Nat) : NK.ds (ps.map fun (n : Nat) => NK.int (n : Int)) = dNs ps := by
  induction ps with
  | nil => rfl
  | cons p ps ih => simp only [List.map_cons, NK.ds, NK.d, ih]
theorem ints_nk2 (ps : List Int) : NK.ds (ps.map NK.int) = dIs ps := by
  induction ps with
  | nil => rfl
  | cons p ps ih => simp only [List.map_cons, NK.ds, NK.d, ih]
theorem kd_nk (k : Kd) : k.nk.d = k.d := by cases k <;> simp [Kd.nk, Kd.nks, Kd.d, Kd.its, NK.d, NK.ds]
theorem nd_nk (n : Nd) : n.nk.d = n.d := by
  cases n with
  | nm x k => simp [Nd.nk, Nd.nks, Nd.d, Nd.its, NK.d, NK.ds, kd_nk]
  | ap w ps ms =>
    have h1 := ints_nk ps
    have h2 := ints_nk2 ms
    simp only [Nd.nk, Nd.nks, Nd.d, Nd.its, NK.d, NK.ds, h1, h2]
theorem nkOf_nd (n : Nd) : nkOf n.d = some n.nk := by rw [← nd_nk]; exact nkOf_d _
theorem kd_nkdep (k : Kd) : k.nk.dep = 1 := by cases k <;> simp [Kd.nk, Kd.nks, NK.dep, NK.deps]
theorem deps_ints (ps : List Nat) : NK.deps (ps.map fun (n : Nat) => NK.int (n : Int)) = 0 := by
  induction ps with
  | nil => rfl
  | cons p ps ih => simp only [List.map_cons, NK.deps, NK.dep, ih, Nat.max_self]
theorem deps_ints2 (ps : List Int) : NK.deps (ps.map NK.int) = 0 := by
  induction ps with
  | nil => rfl
  | cons p ps ih => simp only [List.map_cons, NK.deps, NK.dep, ih, Nat.max_self]
theorem nd_dep (n : Nd) : n.nk.dep ≤ 8 := by
  cases n with
  | nm x k => simp [Nd.nk, Nd.nks, NK.dep, NK.deps, kd_nkdep]
  | ap w ps ms =>
    have h1 := deps_ints ps
    have h2 := deps_ints2 ms
    simp only [Nd.nk, Nd.nks, NK.dep, NK.deps, h1, h2]; decide
theorem kd_nkinj {a b : Kd} (h : a.nk = b.nk) : a = b := by
  cases a <;> cases b <;> simp [Kd.nk, Kd.nks] at h <;> first | rfl | skip
  · rw [Int.ofNat.inj h]
  · rw [Int.ofNat.inj h.1, Int.ofNat.inj h.2]
theorem map_inj' {α β : Type} {f : α → β} (hf : ∀ a b, f a = f b → a = b) : ∀ {l m : List α}, l.map f = m.map f → l = m
  | [], [], _ => rfl
  | [], _ :: _, e => by simp at e
  | _ :: _, [], e => by simp at e
  | a :: l, b :: m, e => by
    simp only [List.map_cons, List.cons.injEq] at e
    rw [hf _ _ e.1, map_inj' hf e.2]
theorem nd_nkinj {a b : Nd} (h : a.nk = b.nk) : a = b := by
  cases a with
  | nm x k =>
    cases b with
    | nm y l =>
      simp only [Nd.nk, Nd.nks, NK.tup.injEq, List.cons.injEq, NK.str.injEq, and_true, true_and] at h
      obtain ⟨rfl, h⟩ := h
      rw [kd_nkinj h]
    | ap w ps ms =>
      simp only [Nd.nk, Nd.nks, NK.tup.injEq, List.cons.injEq, NK.str.injEq, and_true] at h
      obtain ⟨_, _, h⟩ := h
      cases ms <;> simp at h
  | ap w ps ms =>
    cases b with
    | nm y l =>
      simp only [Nd.nk, Nd.nks, NK.tup.injEq, List.cons.injEq, NK.str.injEq, and_true] at h
      obtain ⟨_, _, h⟩ := h
      cases ms <;> simp at h
    | ap w' ps' ms' =>
      simp only [Nd.nk, Nd.nks, NK.tup.injEq, List.cons.injEq, NK.str.injEq, and_true] at h
      obtain ⟨rfl, h1, h2⟩ := h
      rw [map_inj' (fun a b e => by injection e with e; omega) h1, map_inj' (fun a b e => by injection e) h2]
theorem placed_val (n : Nd) : ∀ (i : Nat) (ts : Ts), valN (placedF i ts) n.nk = (nIx n ts).map fun j => D.int ((i + j : Nat) : Int)
  | _, [] => rfl
  | i, t :: ts => by
    unfold placedF nIx
    by_cases e : t.1 = n
    · rw [if_pos e]
      subst e
      simp [valN]
    · rw [if_neg e]
      have e2 : ¬ t.1.nk = n.nk := fun z => e (nd_nkinj z)
      have ih := placed_val n (i + 1) ts
      have : valN ((t.1.nk, D.int i) :: placedF (i + 1) ts) n.nk = valN (placedF (i + 1) ts) n.nk := by simp [valN, List.find?_cons, e2]
      rw [this, ih, Option.map_map]
      congr 1
      funext j
      simp only [Function.comp]
      congr 2
      omega
theorem placed_app (t : Nd × Kd) : ∀ (i : Nat) (ts : Ts), placedF i (ts ++ [t]) = placedF i ts ++ [(t.1.nk, .int ((i + ts.length : Nat) : Int))]
  | i, [] => by simp [placedF]
  | i, u :: ts => by
    simp only [List.cons_append, placedF, placed_app t (i + 1) ts, List.length_cons]
    have : (i + 1 + ts.length : Nat) = i + (ts.length + 1) := by omega
    rw [this]
theorem placed_len : ∀ (i : Nat) (ts : Ts), (placedF i ts).length = ts.length
  | _, [] => rfl
  | i, t :: ts => by simp [placedF, placed_len (i + 1) ts]
theorem nIx_some {n : Nd} : ∀ {ts : Ts} {i : Nat}, nIx n ts = some i → ndAt ts i = some n
  | [], i, e => by simp [nIx] at e
  | t :: ts, i, e => by
    unfold nIx at e
    by_cases q : t.1 = n
    · rw [if_pos q] at e; cases e; simp [ndAt, q]
    · rw [if_neg q, Option.map_eq_some_iff] at e
      obtain ⟨j, e1, rfl⟩ := e
      have := nIx_some e1
      simpa [ndAt] using this
theorem nIx_none {n : Nd} : ∀ {ts : Ts}, nIx n ts = none → ∀ i, ndAt ts i ≠ some n
  | [], _, i => by simp [ndAt]
  | t :: ts, e, i => by
    unfold nIx at e
    by_cases q : t.1 = n
    · rw [if_pos q] at e; cases e
    · rw [if_neg q, Option.map_eq_none_iff] at e
      cases i with
      | zero => simpa [ndAt] using q
      | succ i =>
        have := nIx_none e i
        simpa [ndAt] using this
theorem bput_some {ts : Ts} {n : Nd} {k : Kd} {i : Nat} (h : nIx n ts = some i) : bput ts n k = (i, ts) := by unfold bput; rw [h]
theorem bput_none {ts : Ts} {n : Nd} {k : Kd} (h : nIx n ts = none) : bput ts n k = (ts.length, ts ++ [(n, k)]) := by unfold bput; rw [h]

/-! ### the bank's doings -/
theorem setSame {α : Type} {st : List α} {j : Nat} {x y : α} (e : st[j]? = some x) : (st.set j y)[j]? = some y := by
  rw [List.getElem?_set_self (List.getElem?_eq_some_iff.mp e).1]
theorem appL {α : Type} {st l : List α} {j : Nat} {x : α} (e : st[j]? = some x) : (st ++ l)[j]? = some x := by
  rw [List.getElem?_append_left (List.getElem?_eq_some_iff.mp e).1]; exact e
theorem appN {α : Type} {st : List α} {x : α} : (st ++ [x])[st.length]? = some x := by simp
theorem ltOf {α : Type} {st : List α} {j : Nat} {x : α} (e : st[j]? = some x) : j < st.length := (List.getElem?_eq_some_iff.mp e).1
theorem lt_ne {α : Type} {st : List α} {j : Nat} {x : α} (e : st[j]? = some x) : j ≠ st.length := Nat.ne_of_lt (ltOf e)
section
variable {st : Sto} {R : DQ} {c : Cl} {B : BH} {ts tq : Ts} {j : Nat} {n : Nd}
theorem dInNd {neg : Bool} {kvs : List (NK × D)} (e : st[j]? = some (.dN kvs)) (h : R (.bl (if neg then !(valN kvs n.nk).isSome else (valN kvs n.nk).isSome)) st) : dInN neg n.d (.hdl j) st R := by
  unfold dInN; rw [onN_hdl e]; exact ⟨n.nk, nkOf_nd n, nd_dep n, h⟩
theorem dIxNd {kvs : List (NK × D)} {d : D} (e : st[j]? = some (.dN kvs)) (v : valN kvs n.nk = some d) (h : R d st) : dIxN (.hdl j) n.d st R := by
  unfold dIxN; rw [onN_hdl e]; exact ⟨n.nk, nkOf_nd n, nd_dep n, d, v, h⟩
theorem dSetNd {kvs : List (NK × D)} {v : D} {k : Sto → Prop} (e : st[j]? = some (.dN kvs)) (hl : kvs.length < sizeLine) (h : k (st.set j (.dN (putNK kvs n.nk v)))) : dSetN (.hdl j) n.d v st k := by
  unfold dSetN; rw [onN_hdl e]; exact ⟨n.nk, nkOf_nd n, nd_dep n, hl, h⟩
theorem BankQ.f0 {P : D → Prop} (h : BankQ c B ts tq st) (k : P (.hdl B.m)) : onO st (.hdl B.b) c.Bank fun _ fs => ∃ d, fldN fs 0 = some d ∧ P d := onO_h h.obj ⟨_, rfl, k⟩
theorem BankQ.f1 {P : D → Prop} (h : BankQ c B ts tq st) (k : P (.hdl B.s)) : onO st (.hdl B.b) c.Bank fun _ fs => ∃ d, fldN fs 1 = some d ∧ P d := onO_h h.obj ⟨_, rfl, k⟩
theorem BankQ.f2 {P : D → Prop} (h : BankQ c B ts tq st) (k : P (.hdl B.p)) : onO st (.hdl B.b) c.Bank fun _ fs => ∃ d, fldN fs 2 = some d ∧ P d := onO_h h.obj ⟨_, rfl, k⟩
theorem BankQ.f3 {P : D → Prop} (h : BankQ c B ts tq st) (k : P (.hdl B.q)) : onO st (.hdl B.b) c.Bank fun _ fs => ∃ d, fldN fs 3 = some d ∧ P d := onO_h h.obj ⟨_, rfl, k⟩
theorem BankQ.is (h : BankQ c B ts tq st) : onO st (.hdl B.b) c.Bank fun _ _ => True := onO_h h.obj trivial
end
theorem atI_nat {xs : List D} {i : Nat} {d : D} (e : xs[i]? = some d) : atI xs (i : Int) = some d := by
  have h := ltOf e
  have h0 : (0 : Int) ≤ i := by omega
  have h1 : (i : Int) < xs.length := by omega
  simp [atI, ixN, h0, h1, e]
theorem nIx_lt {n : Nd} {ts : Ts} {i : Nat} (h : nIx n ts = some i) : i < ts.length := by
  have := nIx_some h
  unfold ndAt at this
  rw [Option.map_eq_some_iff] at this
  obtain ⟨t, e, _⟩ := this
  exact ltOf e
theorem placed_none {n : Nd} {ts : Ts} (h : nIx n ts = none) : valN (placedF 0 ts) n.nk = none := by rw [placed_val, h]; rfl
theorem placed_some {n : Nd} {ts : Ts} {i : Nat} (h : nIx n ts = some i) : valN (placedF 0 ts) n.nk = some (.int i) := by rw [placed_val, h]; simp
theorem putNK_new {kvs : List (NK × D)} {k : NK} {v : D} (h : valN kvs k = none) : putNK kvs k v = kvs ++ [(k, v)] := by
  unfold putNK
  have : (kvs.any fun p => decide (p.1 = k)) = false := by
    unfold valN at h
    simp only [Option.map_eq_none_iff, List.find?_eq_none] at h
    rw [List.any_eq_false]
    exact h
  rw [this]; rfl
theorem nIx_app {n : Nd} {k : Kd} : ∀ {ts : Ts}, nIx n ts = none → nIx n (ts ++ [(n, k)]) = some ts.length
  | [], _ => by simp [nIx]
  | t :: ts, e => by
    unfold nIx at e
    by_cases q : t.1 = n
    · rw [if_pos q] at e; cases e
    · rw [if_neg q, Option.map_eq_none_iff] at e
      simp only [List.cons_append, nIx, if_neg q, nIx_app e, Option.map_some, List.length_cons]
theorem sem_need_term (c : Cl) : ∀ ds st R xq, spneed_term c ds st R xq → wneed_term c (EndsOf R xq) (startD ["bank", "term"] ds) st := by
  rintro ds st R xq ⟨B, ts, i, rfl, hb, hi, k⟩
  show wneed_term c ⟨_, _, _, _, _⟩ [some (.hdl B.b), some (.int i)] st
  unfold wneed_term
  walk_at "s"
  refine hb.f0 ?_
  walk_at "s"
  refine dLen_h hb.made ?_
  walk_at "s"
  refine ⟨.int i, 0, _, rfl, rfl, ?_⟩
  walk_at "s"
  refine ifF ?_ ?_
  · simp [isW]; omega
  walk_at "s"
  exact k
theorem sem_put_in (c : Cl) : ∀ ds st R xq, spput_in c ds st R xq → wput_in c (EndsOf R xq) (startD ["bank", "made", "sort"] ds) st := by
  rintro ds st R xq ⟨B, ts, tq, n, kd, rfl, hb, hl, k⟩
  show wput_in c ⟨_, _, _, _, _⟩ [some (.hdl B.b), some n.d, some kd.d] st
  unfold wput_in
  walk_at "s"
  refine hb.f2 ?_
  refine dInNd hb.placed ?_
  walk_at "s"
  cases e : nIx n ts with
  | some i =>
    refine ifF (by rw [placed_some e]; rfl) ?_
    walk_at "s"
    refine hb.f2 ?_
    walk_at "s"
    refine dIxNd hb.placed (placed_some e) ?_
    exact k i ts st (bput_some e) hb .refl
  | none =>
    refine ifT (by rw [placed_none e]; rfl) ?_
    walk_at "s"
    refine hb.f0 ?_
    walk_at "s"
    refine dLen_h hb.made ?_
    walk_at "s"
    refine hb.f2 ?_
    walk_at "s"
    refine dSetNd hb.placed (by rw [placed_len]; simp only [sizeLine]; omega) ?_
    rw [putNK_new (placed_none e), List.length_map]
    have nd := hb.nd
    simp only [List.nodup_cons, List.mem_cons, List.not_mem_nil, or_false, not_or, List.nodup_nil, and_true, not_false_eq_true] at nd
    obtain ⟨⟨n1, n2, n3, n4⟩, ⟨n5, n6, n7⟩, ⟨n8, n9⟩, n10⟩ := nd
    generalize hs1 : st.set B.p (.dN (placedF 0 ts ++ [(n.nk, .int (ts.length : Int))])) = st1
    have o1 : st1[B.b]? = some (.ins c.Bank [(0, .hdl B.m), (1, .hdl B.s), (2, .hdl B.p), (3, .hdl B.q)]) := by rw [← hs1, List.getElem?_set_ne (Ne.symm n3)]; exact hb.obj
    have m1 : st1[B.m]? = some (.lst (ts.map fun t => t.1.d)) := by rw [← hs1, List.getElem?_set_ne (Ne.symm n6)]; exact hb.made
    have s1 : st1[B.s]? = some (.lst (ts.map fun t => t.2.d)) := by rw [← hs1, List.getElem?_set_ne (Ne.symm n8)]; exact hb.sorts
    have p1 : st1[B.p]? = some (.dN (placedF 0 ts ++ [(n.nk, .int (ts.length : Int))])) := by rw [← hs1]; exact setSame hb.placed
    have q1 : st1[B.q]? = some (.dK (calledF 0 tq)) := by rw [← hs1, List.getElem?_set_ne n10]; exact hb.called
    have f1 : Fx B.fp st st1 := by rw [← hs1]; exact Fx.refl.set (.inl (by simp [BH.fp]))
    walk_at "s"
    refine onO_h o1 ⟨_, rfl, ?_⟩
    refine ⟨isLD_h m1, ?_⟩
    walk_at "s"
    refine dApp_h m1 (by simp only [List.length_map, sizeLine]; omega) ?_
    generalize hs2 : st1.set B.m (.lst ((ts.map fun t => t.1.d) ++ [n.d])) = st2
    have o2 : st2[B.b]? = some (.ins c.Bank [(0, .hdl B.m), (1, .hdl B.s), (2, .hdl B.p), (3, .hdl B.q)]) := by rw [← hs2, List.getElem?_set_ne (Ne.symm n1)]; exact o1
    have m2 : st2[B.m]? = some (.lst ((ts.map fun t => t.1.d) ++ [n.d])) := by rw [← hs2]; exact setSame m1
    have s2 : st2[B.s]? = some (.lst (ts.map fun t => t.2.d)) := by rw [← hs2, List.getElem?_set_ne n5]; exact s1
    have p2 : st2[B.p]? = some (.dN (placedF 0 ts ++ [(n.nk, .int (ts.length : Int))])) := by rw [← hs2, List.getElem?_set_ne n6]; exact p1
    have q2 : st2[B.q]? = some (.dK (calledF 0 tq)) := by rw [← hs2, List.getElem?_set_ne n7]; exact q1
    have f2 : Fx B.fp st st2 := by rw [← hs2]; exact f1.set (.inl (by simp [BH.fp]))
    walk_at "s"
    refine onO_h o2 ⟨_, rfl, ?_⟩
    refine ⟨isLD_h s2, ?_⟩
    walk_at "s"
    refine dApp_h s2 (by simp only [List.length_map, sizeLine]; omega) ?_
    generalize hs3 : st2.set B.s (.lst ((ts.map fun t => t.2.d) ++ [kd.d])) = st3
    have o3 : st3[B.b]? = some (.ins c.Bank [(0, .hdl B.m), (1, .hdl B.s), (2, .hdl B.p), (3, .hdl B.q)]) := by rw [← hs3, List.getElem?_set_ne (Ne.symm n2)]; exact o2
    have m3 : st3[B.m]? = some (.lst ((ts.map fun t => t.1.d) ++ [n.d])) := by rw [← hs3, List.getElem?_set_ne (Ne.symm n5)]; exact m2
    have s3 : st3[B.s]? = some (.lst ((ts.map fun t => t.2.d) ++ [kd.d])) := by rw [← hs3]; exact setSame s2
    have p3 : st3[B.p]? = some (.dN (placedF 0 ts ++ [(n.nk, .int (ts.length : Int))])) := by rw [← hs3, List.getElem?_set_ne n8]; exact p2
    have q3 : st3[B.q]? = some (.dK (calledF 0 tq)) := by rw [← hs3, List.getElem?_set_ne n9]; exact q2
    have f3 : Fx B.fp st st3 := by rw [← hs3]; exact f2.set (.inl (by simp [BH.fp]))
    have hp : placedF 0 (ts ++ [(n, kd)]) = placedF 0 ts ++ [(n.nk, .int (ts.length : Int))] := by rw [placed_app]; simp
    have hb3 : BankQ c B (ts ++ [(n, kd)]) tq st3 := ⟨o3, by rw [m3, List.map_append]; rfl, by rw [s3, List.map_append]; rfl, by rw [p3, hp], q3, hb.nd⟩
    walk_at "s"
    refine hb3.f2 ?_
    walk_at "s"
    refine dIxNd hb3.placed (placed_some (nIx_app e)) ?_
    exact k _ _ st3 (bput_none e) hb3 f3
theorem sem_Bank_DinitD (c : Cl) : ∀ ds st R xq, spBank_DinitD c ds st R xq → wBank_DinitD c (EndsOf R xq) (startD ["self"] ds) st := by
  rintro ds st R xq ⟨b, rfl, hb, k⟩
  show wBank_DinitD c ⟨_, _, _, _, _⟩ [some (.hdl b)] st
  unfold wBank_DinitD
  have lb := ltOf hb
  walk_at "s"
  refine onO_h (appL hb) ⟨by decide, ?_⟩
  generalize hs1 : (st ++ [Cell.lst []]).set b (.ins c.Bank (putN 0 (.hdl st.length) [])) = st1
  have l1 : st1.length = st.length + 1 := by rw [← hs1]; simp
  have o1 : st1[b]? = some (.ins c.Bank [(0, .hdl st.length)]) := by rw [← hs1]; exact setSame (appL hb)
  have m1 : st1[st.length]? = some (.lst []) := by rw [← hs1, List.getElem?_set_ne (by omega)]; exact appN
  have f1 : Fx [b] st st1 := by rw [← hs1]; exact Fx.refl.app.set (.inl (by simp))
  walk_at "s"
  refine onO_h (appL o1) ⟨by simp, ?_⟩
  rw [l1]
  generalize hs2 : (st1 ++ [Cell.lst []]).set b (.ins c.Bank (putN 1 (.hdl (st.length + 1)) [(0, .hdl st.length)])) = st2
  have l2 : st2.length = st.length + 2 := by rw [← hs2]; simp [l1]
  have o2 : st2[b]? = some (.ins c.Bank [(0, .hdl st.length), (1, .hdl (st.length + 1))]) := by rw [← hs2]; exact setSame (appL o1)
  have m2 : st2[st.length]? = some (.lst []) := by rw [← hs2, List.getElem?_set_ne (by omega)]; exact appL m1
  have n2 : st2[st.length + 1]? = some (.lst []) := by rw [← hs2, List.getElem?_set_ne (by omega), ← l1]; exact appN
  have f2 : Fx [b] st st2 := by rw [← hs2]; exact f1.app.set (.inl (by simp))
  walk_at "s"
  refine onO_h (appL o2) ⟨by simp, ?_⟩
  rw [l2]
  generalize hs3 : (st2 ++ [Cell.dN []]).set b (.ins c.Bank (putN 2 (.hdl (st.length + 2)) [(0, .hdl st.length), (1, .hdl (st.length + 1))])) = st3
  have l3 : st3.length = st.length + 3 := by rw [← hs3]; simp [l2]
  have o3 : st3[b]? = some (.ins c.Bank [(0, .hdl st.length), (1, .hdl (st.length + 1)), (2, .hdl (st.length + 2))]) := by rw [← hs3]; exact setSame (appL o2)
  have m3 : st3[st.length]? = some (.lst []) := by rw [← hs3, List.getElem?_set_ne (by omega)]; exact appL m2
  have n3 : st3[st.length + 1]? = some (.lst []) := by rw [← hs3, List.getElem?_set_ne (by omega)]; exact appL n2
  have p3 : st3[st.length + 2]? = some (.dN []) := by rw [← hs3, List.getElem?_set_ne (by omega), ← l2]; exact appN
  have f3 : Fx [b] st st3 := by rw [← hs3]; exact f2.app.set (.inl (by simp))
  walk_at "s"
  refine onO_h (appL o3) ⟨by simp, ?_⟩
  rw [l3]
  generalize hs4 : (st3 ++ [Cell.dK []]).set b (.ins c.Bank (putN 3 (.hdl (st.length + 3)) [(0, .hdl st.length), (1, .hdl (st.length + 1)), (2, .hdl (st.length + 2))])) = st4
  have l4 : st4.length = st.length + 4 := by rw [← hs4]; simp [l3]
  have o4 : st4[b]? = some (.ins c.Bank [(0, .hdl st.length), (1, .hdl (st.length + 1)), (2, .hdl (st.length + 2)), (3, .hdl (st.length + 3))]) := by rw [← hs4]; exact setSame (appL o3)
  have m4 : st4[st.length]? = some (.lst []) := by rw [← hs4, List.getElem?_set_ne (by omega)]; exact appL m3
  have n4 : st4[st.length + 1]? = some (.lst []) := by rw [← hs4, List.getElem?_set_ne (by omega)]; exact appL n3
  have p4 : st4[st.length + 2]? = some (.dN []) := by rw [← hs4, List.getElem?_set_ne (by omega)]; exact appL p3
  have q4 : st4[st.length + 3]? = some (.dK []) := by rw [← hs4, List.getElem?_set_ne (by omega), ← l3]; exact appN
  have f4 : Fx [b] st st4 := by rw [← hs4]; exact f3.app.set (.inl (by simp))
  exact k st4 f4 ⟨o4, m4, n4, p4, q4, by simp; omega⟩ l4
theorem sem_Bank_kind (c : Cl) : ∀ ds st R xq, spBank_kind c ds st R xq → wBank_kind c (EndsOf R xq) (startD ["self", "term"] ds) st := by
  rintro ds st R xq ⟨B, ts, i, rfl, hb, hi, k⟩
  show wBank_kind c ⟨_, _, _, _, _⟩ [some (.hdl B.b), some (.int i)] st
  unfold wBank_kind
  walk_at "s"
  refine ⟨B, ts, i, rfl, hb, hi, ?_⟩
  walk_at "s"
  refine hb.f1 ?_
  walk_at "s"
  refine dIx_h hb.sorts (atI_nat (d := (kindAt ts i).d) ?_) k
  simp [kindAt, hi]
theorem sem_Bank_node (c : Cl) : ∀ ds st R xq, spBank_node c ds st R xq → wBank_node c (EndsOf R xq) (startD ["self", "term"] ds) st := by
  rintro ds st R xq ⟨B, ts, i, t, rfl, hb, hi, k⟩
  show wBank_node c ⟨_, _, _, _, _⟩ [some (.hdl B.b), some (.int i)] st
  unfold wBank_node
  walk_at "s"
  refine ⟨B, ts, i, rfl, hb, ltOf hi, ?_⟩
  walk_at "s"
  refine hb.f0 ?_
  walk_at "s"
  refine dIx_h hb.made (atI_nat (d := t.1.d) ?_) k
  simp [hi]
theorem sem_as_kind (c : Cl) : ∀ ds st R xq, spas_kind c ds st R xq → was_kind c (EndsOf R xq) (startD ["thing"] ds) st := by
  rintro ds st R xq ⟨d, kd, rfl, hd, hok, k⟩
  show was_kind c ⟨_, _, _, _, _⟩ [some d] st
  unfold was_kind
  have ty : ∃ t, tyD st d = some t ∧ kitBs t ["tuple", "list"] = some true := by
    rcases hd with rfl | rfl
    · exact ⟨"tuple", rfl, rfl⟩
    · exact ⟨"list", rfl, rfl⟩
  obtain ⟨t, ht1, ht2⟩ := ty
  have tup : ∀ {R : DQ}, R kd.d st → dTuple [d] st R := by
    intro R h
    rcases hd with rfl | rfl
    · exact dTuple_t h
    · exact dTuple_l h
  have len : ∀ {R : DQ}, R (.int kd.its.length) st → dLen [d] st R := by
    intro R h
    rcases hd with rfl | rfl
    · exact dLen_t h
    · exact dLen_l h
  have ix : ∀ {R : DQ} {i : Int} {x : D}, atI kd.its i = some x → R x st → dIx d (.int i) st R := by
    intro R i x e h
    rcases hd with rfl | rfl
    · exact dIx_t e h
    · exact dIx_l e h
  walk_at "s"
  refine ⟨rfl, t, true, ht1, ht2, ?_⟩
  walk_at "s"
  refine tup ?_
  walk_at "s"
  refine dEQ_kd (b := .truth) ?_
  walk_at "s"
  cases kd with
  | truth =>
    refine ifT rfl ?_
    walk_at "s"
    exact k
  | word n =>
    refine ifF (by simp [xorB]) ?_
    walk_at "s"
    refine len ?_
    walk_at "s"
    refine ix at0 ?_
    walk_at "s"
    refine ix at1 ?_
    walk_at "s"
    refine ⟨.int n, 1, 8, rfl, rfl, ?_⟩
    walk_at "s"
    obtain ⟨h1, h2⟩ := hok
    refine ifT (by simp [isW]; omega) ?_
    walk_at "s"
    exact tup k
  | arr p n =>
    refine ifF (by simp [xorB]) ?_
    walk_at "s"
    refine len ?_
    walk_at "s"
    refine len ?_
    walk_at "s"
    refine ix at0 ?_
    walk_at "s"
    refine ix at1 ?_
    walk_at "s"
    refine ⟨.int p, 1, 3, rfl, rfl, ?_⟩
    walk_at "s"
    obtain ⟨h1, h2, h3, h4⟩ := hok
    refine ifF (by simp [isW]; omega) ?_
    walk_at "s"
    refine ix at2 ?_
    walk_at "s"
    refine ⟨.int n, 1, 8, rfl, rfl, ?_⟩
    walk_at "s"
    refine ifT (by simp [isW]; omega) ?_
    walk_at "s"
    exact tup k

/-! ### rules keep kinds well -/
theorem isW_int {i a b : Int} : isW (.int i) a b = true ↔ a ≤ i ∧ i ≤ b := by simp [isW]
theorem kindOf_ok {w : Str} {ks : List Kd} {ms : List D} {k : Kd} (h : kindOf w ks ms = some k) (hk : ∀ q ∈ ks, q.ok) : k.ok := by
  have words : ∀ {ks : List Kd} {k : Kd}, kWords ks ms = some k → (∀ q ∈ ks, q.ok) → k.ok := by
    intro ks k e hk
    unfold kWords at e
    split at e
    · rename_i n b
      split at e
      · cases e; exact hk (.word n) (by simp)
      · cases e
    · cases e
  have key : ∀ p ∈ wordRules, ∀ k, p.2 ks ms = some k → k.ok := by
    intro p hp k e
    simp only [wordRules, List.mem_cons, List.not_mem_nil, or_false] at hp
    have c1 : p.2 = kNothing ∨ p.2 = kMarks ∨ p.2 = kTruth ∨ p.2 = kTruths ∨ p.2 = kAlike ∨ p.2 = kLess ∨ p.2 = kChoice ∨ p.2 = kWord ∨ p.2 = kWords ∨ p.2 = kJoined ∨ p.2 = kCut ∨ p.2 = kRead ∨ p.2 = kWritten := by
      rcases hp with h | h | h | h | h | h | h | h | h | h | h | h | h | h | h | h | h | h | h | h | h | h | h | h | h | h <;> subst h <;> simp
    rcases c1 with h | h | h | h | h | h | h | h | h | h | h | h | h <;> rw [h] at e
    · unfold kNothing at e; split at e <;> cases e; trivial
    · unfold kMarks at e
      split at e
      · rename_i a b
        split at e
        · rename_i q
          cases e
          have := isW_int.mp q.1
          show 1 ≤ a.toNat ∧ a.toNat ≤ 8
          omega
        · cases e
      · cases e
    · unfold kTruth at e; split at e <;> cases e; trivial
    · unfold kTruths at e; split at e <;> cases e; trivial
    · unfold kAlike at e
      split at e
      · split at e <;> cases e; trivial
      · cases e
    · unfold kLess at e
      rw [Option.map_eq_some_iff] at e
      obtain ⟨_, _, rfl⟩ := e
      trivial
    · unfold kChoice at e
      split at e
      · rename_i a b ms
        split at e
        · cases e; exact hk _ (by simp)
        · cases e
      · cases e
    · unfold kWord at e
      split at e
      · rename_i n ms
        split at e
        · cases e; exact hk _ (by simp)
        · cases e
      · cases e
    · exact words e hk
    · unfold kJoined at e
      split at e
      · rename_i n m
        split at e
        · rename_i q
          cases e
          have h1 : (Kd.word n).ok := hk _ (by simp)
          have h2 := q.2
          exact ⟨Nat.le_trans h1.1 (Nat.le_add_right _ _), h2⟩
        · cases e
      · cases e
    · unfold kCut at e
      split at e
      · rename_i n hh ll
        split at e
        · rename_i q
          cases e
          have h1 : (Kd.word n).ok := hk _ (by simp)
          obtain ⟨h2, h3⟩ := h1
          have h4 := isW_int.mp q.1
          have h5 := isW_int.mp q.2
          show 1 ≤ (hh - ll + 1).toNat ∧ (hh - ll + 1).toNat ≤ 8
          omega
        · cases e
      · cases e
    · unfold kRead at e
      split at e
      · rename_i p n q
        split at e
        · cases e
          have h1 : (Kd.arr p n).ok := hk _ (by simp)
          exact ⟨h1.2.2.1, h1.2.2.2⟩
        · cases e
      · cases e
    · unfold kWritten at e
      split at e
      · rename_i p n q r ms
        split at e
        · cases e
          exact hk _ (by simp)
        · cases e
      · cases e
  unfold kindOf at h
  rw [Option.bind_eq_some_iff] at h
  obtain ⟨g, e1, e2⟩ := h
  unfold ruleOf at e1
  have hm : ∀ {l : List (Str × (List Kd → List D → Option Kd))}, l.lookup w = some g → (w, g) ∈ l := by
    intro l
    induction l with
    | nil => intro e; simp at e
    | cons p l ih =>
      intro e
      simp only [List.lookup] at e
      split at e
      · rename_i q
        cases e
        have : w = p.1 := by simpa using q
        subst this; simp
      · exact List.mem_cons_of_mem _ (ih e)
  exact key _ (hm e1) k e2
/-! ### a bank with one more term -/
theorem kindAt_app {ts l : Ts} {i : Nat} (h : i < ts.length) : kindAt (ts ++ l) i = kindAt ts i := by
  unfold kindAt; rw [List.getElem?_append_left h]
theorem ndAt_app {ts l : Ts} {i : Nat} (h : i < ts.length) : ndAt (ts ++ l) i = ndAt ts i := by
  unfold ndAt; rw [List.getElem?_append_left h]
theorem ndAt_last {ts : Ts} {t : Nd × Kd} : ndAt (ts ++ [t]) ts.length = some t.1 := by simp [ndAt]
theorem ndAt_lt {ts : Ts} {i : Nat} {n : Nd} (h : ndAt ts i = some n) : i < ts.length := by
  unfold ndAt at h
  rw [Option.map_eq_some_iff] at h
  obtain ⟨t, e, _⟩ := h
  exact ltOf e
theorem BankOk.kind {ts : Ts} (h : BankOk ts) {i : Nat} (hi : i < ts.length) : (kindAt ts i).ok := by
  have e : ts[i]? = some ts[i] := by simp [hi]
  have := h.ok _ _ e
  have e2 : kindAt ts i = ts[i].2 := by simp [kindAt, hi]
  rw [e2]
  revert this
  rcases ts[i] with ⟨n, k⟩
  cases n with
  | nm x k' => rintro ⟨rfl, h1, _⟩; exact h1
  | ap w ps ms => rintro ⟨_, _, h1⟩; exact h1
theorem NdOk.app {ts l : Ts} {i : Nat} {t : Nd × Kd} (h : NdOk ts i t) (hi : i ≤ ts.length) : NdOk (ts ++ l) i t := by
  rcases t with ⟨n, k⟩
  cases n with
  | nm x k' => exact h
  | ap w ps ms =>
    obtain ⟨h1, h2, h3⟩ := h
    refine ⟨h1, ?_, h3⟩
    rw [← h2]
    congr 1
    apply List.map_congr_left
    intro p hp
    exact kindAt_app (Nat.lt_of_lt_of_le (h1 p hp) hi)
theorem nIx_none_mem {n : Nd} {ts : Ts} (h : nIx n ts = none) : n ∉ ts.map (·.1) := by
  intro q
  obtain ⟨t, ht, rfl⟩ := List.mem_map.mp q
  obtain ⟨i, hi, e⟩ := List.mem_iff_getElem.mp ht
  exact nIx_none h i (by simp [ndAt, hi, e])
theorem BankOk.more {ts : Ts} (h : BankOk ts) {n : Nd} {k : Kd} (hl : ts.length < 100000) (hn : nIx n ts = none) (ho : NdOk ts ts.length (n, k)) (hx : ∀ i x k' k'', n = .nm x k' → ndAt ts i ≠ some (.nm x k'')) : BankOk (ts ++ [(n, k)]) := by
  refine ⟨by simp; omega, ?_, ?_, ?_⟩
  · rw [List.map_append, List.nodup_append]
    refine ⟨h.nd, by simp, fun a ha b hb => ?_⟩
    simp at hb; subst hb
    intro e; subst e
    exact nIx_none_mem hn ha
  · intro i t e
    by_cases hi : i < ts.length
    · rw [List.getElem?_append_left hi] at e
      exact (h.ok i t e).app (by omega)
    · have := ltOf e
      simp at this
      have hi' : i = ts.length := by omega
      subst hi'
      simp at e; subst e
      exact ho.app (Nat.le_refl _)
  · intro i j x k1 k2 e1 e2
    have l1 := ndAt_lt e1
    have l2 := ndAt_lt e2
    simp at l1 l2
    by_cases hi : i < ts.length
    · rw [ndAt_app hi] at e1
      by_cases hj : j < ts.length
      · rw [ndAt_app hj] at e2
        exact h.nms i j x k1 k2 e1 e2
      · have : j = ts.length := by omega
        subst this
        rw [ndAt_last] at e2
        cases e2
        exact absurd e1 (hx _ _ _ _ rfl)
    · have : i = ts.length := by omega
      subst this
      rw [ndAt_last] at e1
      cases e1
      by_cases hj : j < ts.length
      · rw [ndAt_app hj] at e2
        exact absurd e2 (hx _ _ _ _ rfl)
      · omega
theorem BankOk.put {ts ts' : Ts} (h : BankOk ts) {n : Nd} {k : Kd} {i : Nat} (hl : ts.length < 100000) (ho : NdOk ts ts.length (n, k)) (hx : ∀ i x k' k'', n = .nm x k' → ndAt ts i = some (.nm x k'') → k'' = k') (e : bput ts n k = (i, ts')) : BankOk ts' := by
  cases q : nIx n ts with
  | some j => rw [bput_some q] at e; cases e; exact h
  | none =>
    rw [bput_none q] at e; cases e
    refine h.more hl q ho ?_
    intro i x k' k'' e1 e2
    obtain rfl := hx i x k' k'' e1 e2
    exact nIx_none q i (e1 ▸ e2)
theorem called_app {t : Nd × Kd} : ∀ {i : Nat} {ts : Ts}, calledF i (ts ++ [t]) = calledF i ts ++ calledF (i + ts.length) [t]
  | i, [] => by simp [calledF]
  | i, (.nm x k, k') :: ts => by
    have : i + (ts.length + 1) = i + 1 + ts.length := by omega
    simp only [List.cons_append, calledF, called_app (i := i + 1) (ts := ts), List.length_cons, this]
  | i, (.ap w ps ms, k') :: ts => by
    have : i + (ts.length + 1) = i + 1 + ts.length := by omega
    simp only [List.cons_append, calledF, called_app (i := i + 1) (ts := ts), List.length_cons, this]
theorem called_mem {p : Key × D} : ∀ {i : Nat} {ts : Ts}, p ∈ calledF i ts → ∃ j x k, ndAt ts j = some (.nm x k) ∧ p = (.inr x, .int ((i + j : Nat) : Int))
  | i, [], h => by simp [calledF] at h
  | i, (.nm x k, k') :: ts, h => by
    simp only [calledF, List.mem_cons] at h
    rcases h with rfl | h
    · exact ⟨0, x, k, rfl, rfl⟩
    · obtain ⟨j, y, k2, e1, e2⟩ := called_mem h
      exact ⟨j + 1, y, k2, by simpa [ndAt] using e1, by rw [e2]; congr 2; omega⟩
  | i, (.ap w ps ms, k') :: ts, h => by
    simp only [calledF] at h
    obtain ⟨j, y, k2, e1, e2⟩ := called_mem h
    exact ⟨j + 1, y, k2, by simpa [ndAt] using e1, by rw [e2]; congr 2; omega⟩
theorem called_in {x : Str} {k : Kd} : ∀ {i j : Nat} {ts : Ts}, ndAt ts j = some (.nm x k) → (.inr x, .int ((i + j : Nat) : Int)) ∈ calledF i ts
  | i, j, [], h => by simp [ndAt] at h
  | i, 0, (n, k') :: ts, h => by
    have : n = .nm x k := by simpa [ndAt] using h
    subst this
    simp [calledF]
  | i, j + 1, (n, k') :: ts, h => by
    have h' : ndAt ts j = some (.nm x k) := by simpa [ndAt] using h
    have := called_in (i := i + 1) h'
    have e : i + (j + 1) = i + 1 + j := by omega
    rw [e]
    cases n with
    | nm y k2 => simp only [calledF, List.mem_cons]; exact .inr this
    | ap w ps ms => simpa only [calledF] using this
theorem valD_mem {kvs : List (Key × D)} {k : Key} {d : D} (h : valD kvs k = some d) : (k, d) ∈ kvs := by
  unfold valD at h
  rw [Option.map_eq_some_iff] at h
  obtain ⟨p, e, rfl⟩ := h
  have h1 := List.mem_of_find?_eq_some e
  have h2 := List.find?_some e
  simp at h2
  rw [← h2]; exact h1
theorem valD_nomem {kvs : List (Key × D)} {k : Key} (h : valD kvs k = none) : ∀ p ∈ kvs, p.1 ≠ k := by
  unfold valD at h
  rw [Option.map_eq_none_iff, List.find?_eq_none] at h
  intro p hp
  simpa using h p hp
theorem called_some {ts : Ts} {x : Str} {d : D} (h : valD (calledF 0 ts) (.inr x) = some d) : ∃ j k, ndAt ts j = some (.nm x k) ∧ d = .int (j : Int) := by
  obtain ⟨j, y, k, e1, e2⟩ := called_mem (valD_mem h)
  cases e2
  exact ⟨j, k, e1, by simp⟩
theorem called_none {ts : Ts} {x : Str} (h : valD (calledF 0 ts) (.inr x) = none) (i : Nat) (k : Kd) : ndAt ts i ≠ some (.nm x k) := fun e => valD_nomem h _ (called_in (i := 0) e) rfl
theorem called_at {ts : Ts} (hb : BankOk ts) {x : Str} {j : Nat} {k : Kd} (h : ndAt ts j = some (.nm x k)) : valD (calledF 0 ts) (.inr x) = some (.int (j : Int)) := by
  cases e : valD (calledF 0 ts) (.inr x) with
  | none => exact absurd h (called_none e j k)
  | some d =>
    obtain ⟨i, k', e1, rfl⟩ := called_some e
    rw [hb.nms i j x _ _ e1 h]
theorem putD_same {kvs : List (Key × D)} {k : Key} {v : D} (h : ∀ p ∈ kvs, p.1 = k → p.2 = v) (hm : ∃ p ∈ kvs, p.1 = k) : putD kvs k v = kvs := by
  unfold putD
  obtain ⟨p, hp, e⟩ := hm
  rw [if_pos (List.any_eq_true.mpr ⟨p, hp, by simp [e]⟩)]
  have : ∀ l : List (Key × D), (∀ p ∈ l, p.1 = k → p.2 = v) → l.map (fun kv => if kv.1 = k then (kv.1, v) else kv) = l := by
    intro l hl
    induction l with
    | nil => rfl
    | cons q l ih =>
      simp only [List.map_cons]
      rw [ih fun p hp => hl p (by simp [hp])]
      congr 1
      split
      · rename_i z
        rw [← hl q (by simp) z]
      · rfl
  exact this kvs h
theorem SeqA.it {F : List Nat} {st : Sto} {d : D} {xs : List D} {k : List D → (Sto → Prop) → Sto → Prop} (h : SeqA F st d xs) (hk : ∀ inv : Sto → Prop, (∀ st', Fx F st st' → inv st') → k xs inv st) : dIt d st k := by
  rcases h with rfl | rfl | ⟨j, h1, rfl, h3⟩
  · exact dIt_l (hk _ fun _ _ => trivial)
  · exact dIt_t (hk _ fun _ _ => trivial)
  · exact dIt_h h3 (hk _ fun st' f => f.at h3 h1)
theorem SeqA.tup {F : List Nat} {st : Sto} {R : DQ} {d : D} {xs : List D} (h : SeqA F st d xs) (hk : R (.tup xs) st) : dTuple [d] st R := by
  rcases h with rfl | rfl | ⟨j, h1, rfl, h3⟩
  · exact dTuple_l hk
  · exact dTuple_t hk
  · simp only [dTuple, onQ_hdl h3]; exact hk
theorem SeqA.list {F : List Nat} {st : Sto} {R : DQ} {d : D} {xs : List D} (h : SeqA F st d xs) (hk : R (.hdl st.length) (st ++ [.lst xs])) : dListH [d] st R := by
  rcases h with rfl | rfl | ⟨j, h1, rfl, h3⟩
  · exact dListH_l hk
  · exact dListH_t hk
  · exact dListH_h h3 hk
theorem sem_Bank_make (c : Cl) : ∀ ds st R xq, spBank_make c ds st R xq → wBank_make c (EndsOf R xq) (startD ["self", "word", "parts", "marks", "part", "sort"] ds) st := by
  rintro ds st R xq ⟨B, ts, w, dp, dm, ps, ms, kd, rfl, hb, ho, hl, sp, sm, lp, lm, hp, hk, k⟩
  show wBank_make c ⟨_, _, _, _, _⟩ [some (.hdl B.b), some (.str w), some dp, some dm, none, none] st
  unfold wBank_make
  obtain ⟨g, e1, e2⟩ : ∃ g, ruleOf w = some g ∧ g (ps.map (kindAt ts)) (dIs ms) = some kd := by
    unfold kindOf at hk
    exact Option.bind_eq_some_iff.mp hk
  walk_at "s"
  refine ifF (by rw [rules_some, e1]; rfl) ?_
  walk_at "s"
  refine sp.it fun inv hinv => ?_
  refine forD_ind (fun xs ρ st' => st' = st ∧ (∃ left : List Nat, xs = dNs left ∧ ∀ p ∈ left, p < ts.length) ∧ ∃ z, ρ = [some (.hdl B.b), some (.str w), some dp, some dm, z, none]) ?_ ?_ _ _ _ ⟨rfl, ⟨ps, rfl, hp⟩, none, rfl⟩
  · rintro ρ st' ⟨rfl, _, z, rfl⟩
    refine ⟨hinv _ .refl, ?_⟩
    walk_at "s"
    refine sp.it fun inv hinv => ?_
    refine lcD_ind (fun xs acc st'' => st'' = st' ∧ ∃ done left : List Nat, ps = done ++ left ∧ xs = dNs left ∧ acc = done.map fun p => (kindAt ts p).d) ?_ ?_ _ _ _ ⟨rfl, [], ps, rfl, rfl, rfl⟩
    · rintro acc st'' ⟨rfl, done, left, e3, e4, rfl⟩
      have : left = [] := by cases left with | nil => rfl | cons _ _ => cases e4
      subst this
      rw [List.append_nil] at e3
      subst e3
      refine ⟨hinv _ .refl, ?_⟩
      walk_at "s"
      refine sm.tup ?_
      walk_at "s"
      refine ⟨w, ps.map (kindAt ts), dIs ms, g, by rw [List.map_map]; rfl, e1, by rw [List.all_map]; simp [Function.comp_def, flatM], ?_⟩
      rw [e2]
      walk_at "s"
      refine sp.tup ?_
      walk_at "s"
      refine sm.tup ?_
      walk_at "s"
      refine ⟨B, ts, ts, .ap w ps ms, kd, rfl, hb, hl, ?_⟩
      intro i ts' st2 e5 hb2 f2
      have hkok := kindOf_ok hk (fun q hq => by
        obtain ⟨p, hp', rfl⟩ := List.mem_map.mp hq
        exact ho.kind (hp p hp'))
      refine k i ts' st2 e5 ⟨hb2.obj, hb2.made, hb2.sorts, hb2.placed, ?_, hb2.nd⟩ (ho.put (n := .ap w ps ms) (k := kd) hl ⟨hp, hk, hkok⟩ (fun _ _ _ _ e => by cases e) e5) f2
      rw [hb2.called]
      cases q : nIx (.ap w ps ms) ts with
      | some j => rw [bput_some q] at e5; cases e5; rfl
      | none => rw [bput_none q] at e5; cases e5; rw [called_app]; simp [calledF]
    · rintro y xs acc st'' K ⟨rfl, done, left, e3, e4, rfl⟩ hK
      cases left with
      | nil => cases e4
      | cons p left =>
      cases e4
      refine ⟨hinv _ .refl, ?_⟩
      walk_at "s"
      refine hb.f1 ?_
      walk_at "s"
      have hpl : p < ts.length := hp p (by rw [e3]; simp)
      refine dIx_h hb.sorts (atI_nat (d := (kindAt ts p).d) (by simp [kindAt, hpl])) ?_
      refine ⟨?_, hK _ _ ⟨rfl, done ++ [p], left, by rw [e3]; simp, rfl, by simp⟩⟩
      have := congrArg List.length e3
      simp at this
      simp only [List.length_map, sizeLine]; omega
  · rintro x xs ρ st' K ⟨rfl, ⟨left, e3, hleft⟩, z, rfl⟩ hK
    cases left with
    | nil => cases e3
    | cons p left =>
    cases e3
    refine ⟨hinv _ .refl, ?_⟩
    walk_at "s"
    refine ⟨B, ts, p, rfl, hb, hleft p (by simp), ?_⟩
    walk_at "s"
    exact hK _ _ ⟨rfl, ⟨left, rfl, fun q hq => hleft q (by simp [hq])⟩, _, rfl⟩
theorem dIN_k {st : Sto} {R : DQ} {neg : Bool} {j : Nat} {kvs : List (Key × D)} {x : D} {key : Key} (e : st[j]? = some (.dK kvs)) (q : toK x = some key) (h : R (.bl (if neg then !(valD kvs key).isSome else (valD kvs key).isSome)) st) : dIN neg x (.hdl j) st R := by
  simp only [dIN, dr, e]
  exact onK_h e ⟨key, q, h⟩
theorem dIx_k {st : Sto} {R : DQ} {j : Nat} {kvs : List (Key × D)} {y d : D} {key : Key} (e : st[j]? = some (.dK kvs)) (q : toK y = some key) (v : valD kvs key = some d) (h : R d st) : dIx (.hdl j) y st R := by
  have e1 : dr st (.hdl j) = .hdl j := by simp only [dr, e]
  unfold dIx
  rw [e1]
  show onK st (.hdl j) _
  rw [onK_hdl e]
  exact ⟨key, d, q, v, h⟩
theorem putD_newB {kvs : List (Key × D)} {k : Key} {v : D} (h : valD kvs k = none) : putD kvs k v = kvs ++ [(k, v)] := by
  unfold putD
  have : (kvs.any fun kv => decide (kv.1 = k)) = false := by
    rw [List.any_eq_false]
    intro p hp
    simpa using valD_nomem h p hp
  rw [this]; rfl
theorem sem_Bank_name (c : Cl) : ∀ ds st R xq, spBank_name c ds st R xq → wBank_name c (EndsOf R xq) (startD ["self", "text", "kind", "sort"] ds) st := by
  rintro ds st R xq ⟨B, ts, x, d, kd, rfl, hd, hok, hb, ho, hl, hx, hu, k⟩
  show wBank_name c ⟨_, _, _, _, _⟩ [some (.hdl B.b), some (.str x), some d, none] st
  unfold wBank_name
  walk_at "s"
  refine ⟨d, kd, rfl, hd, hok, ?_⟩
  walk_at "s"
  have hxl : x.length ≤ 8 := by
    unfold isNm at hx
    simp only [Bool.and_eq_true, decide_eq_true_eq] at hx
    exact hx.1.1.1.1.2
  refine ⟨x, rfl, by omega, ?_⟩
  rw [hx]
  walk_at "s"
  refine hb.f3 ?_
  walk_at "s"
  refine dIN_k hb.called rfl ?_
  have hcase : valD (calledF 0 ts) (.inr x) = none ∨ ∃ j : Nat, valD (calledF 0 ts) (.inr x) = some (.int (j : Int)) ∧ ndAt ts j = some (.nm x kd) := by
    cases e : valD (calledF 0 ts) (.inr x) with
    | none => exact .inl rfl
    | some d' =>
      obtain ⟨j, k', h1, rfl⟩ := called_some e
      obtain rfl := hu j k' h1
      exact .inr ⟨j, rfl, h1⟩
  rcases hcase with e | ⟨j, e, h1⟩
  focus
    rw [e]
    walk_at "s"
  rotate_left
  focus
    rw [e]
    walk_at "s"
    refine hb.f1 ?_
    walk_at "s"
    refine hb.f3 ?_
    walk_at "s"
    refine dIx_k hb.called (key := .inr x) rfl e ?_
    have hj := ndAt_lt h1
    have hkj : kindAt ts j = kd := by
      have e2 : ts[j]? = some ts[j] := by simp [hj]
      have := ho.ok _ _ e2
      have e3 : ts[j].1 = .nm x kd := by simpa [ndAt, hj] using h1
      have e4 : kindAt ts j = ts[j].2 := by simp [kindAt, hj]
      rw [e4]
      revert this e3
      rcases ts[j] with ⟨n, kk⟩
      rintro h rfl
      exact h.1
    refine dIx_h hb.sorts (atI_nat (d := (kindAt ts j).d) (by simp [kindAt, hj])) ?_
    walk_at "s"
    rw [hkj]
    refine dEQ_kd ?_
    walk_at "s"
    refine ifF (by simp [xorB]) ?_
    walk_at "s"
  all_goals
    refine ⟨B, ts, ts, .nm x kd, kd, rfl, hb, hl, ?_⟩
    intro i ts' st2 e5 hb2 f2
    walk_at "s"
    refine hb2.f3 ?_
    walk_at "s"
    have hok' : BankOk ts' := ho.put (n := .nm x kd) (k := kd) hl ⟨rfl, hok, hx⟩ (fun i y k' k'' e e' => by cases e; exact hu i _ e') e5
    have hlen : (calledF 0 ts).length ≤ ts.length := by
      have : ∀ i (ts : Ts), (calledF i ts).length ≤ ts.length := by
        intro i ts
        induction ts generalizing i with
        | nil => exact Nat.le_refl _
        | cons t ts ih =>
          rcases t with ⟨n, k⟩
          cases n with
          | nm y k' => simp only [calledF, List.length_cons]; have := ih (i + 1); omega
          | ap w ps ms => simp only [calledF, List.length_cons]; have := ih (i + 1); omega
      exact this 0 ts
    refine dSet_k hb2.called (by simp only [sizeLine]; omega) (key := .inr x) rfl ?_
    have hat : ndAt ts' i = some (.nm x kd) := by
      cases q : nIx (.nm x kd) ts with
      | some j => rw [bput_some q] at e5; cases e5; exact nIx_some q
      | none => rw [bput_none q] at e5; cases e5; exact ndAt_last
    have hc : putD (calledF 0 ts) (.inr x) (.int i) = calledF 0 ts' := by
      cases q : nIx (.nm x kd) ts with
      | some j =>
        rw [bput_some q] at e5; cases e5
        refine putD_same ?_ ⟨_, called_in (i := 0) hat, rfl⟩
        intro p hp e
        obtain ⟨j', y, k', h1, rfl⟩ := called_mem hp
        cases e
        rw [ho.nms _ _ x _ _ h1 hat]; simp
      | none =>
        rw [bput_none q] at e5; cases e5
        rw [called_app, putD_newB]
        · simp [calledF]
        · cases e6 : valD (calledF 0 ts) (.inr x) with
          | none => rfl
          | some d' =>
            obtain ⟨j, k', h1, _⟩ := called_some e6
            obtain rfl := hu j k' h1
            exact absurd h1 (nIx_none q _)
    rw [hc]
    have nd := hb.nd
    simp only [List.nodup_cons, List.mem_cons, List.not_mem_nil, or_false, not_or, List.nodup_nil, and_true, not_false_eq_true] at nd
    obtain ⟨⟨n1, n2, n3, n4⟩, ⟨n5, n6, n7⟩, ⟨n8, n9⟩, n10⟩ := nd
    have hb3 : BankAt c B ts' (st2.set B.q (.dK (calledF 0 ts'))) := ⟨by rw [List.getElem?_set_ne (Ne.symm n4)]; exact hb2.obj, by rw [List.getElem?_set_ne (Ne.symm n7)]; exact hb2.made, by rw [List.getElem?_set_ne (Ne.symm n9)]; exact hb2.sorts, by rw [List.getElem?_set_ne (Ne.symm n10)]; exact hb2.placed, setSame hb2.called, hb2.nd⟩
    walk_at "s"
    refine hb3.f3 ?_
    walk_at "s"
    refine dIx_k hb3.called (key := .inr x) rfl (called_at hok' hat) ?_
    exact k i ts' _ e5 hb3 hok' (f2.set (.inl (by simp [BH.fp])))
theorem calledLen : ∀ (i : Nat) (ts : Ts), (calledF i ts).length ≤ ts.length
  | _, [] => Nat.le_refl _
  | i, (.nm y k', _) :: ts => by simp only [calledF, List.length_cons]; have := calledLen (i + 1) ts; omega
  | i, (.ap w ps ms, _) :: ts => by simp only [calledF, List.length_cons]; have := calledLen (i + 1) ts; omega
/-- the names of a bank, each with its place and kind -/
theorem names_L : ∀ (i : Nat) (ts : Ts), (∀ (j : Nat) (t : Nd × Kd), ts[j]? = some t → ∀ x k, t.1 = Nd.nm x k → t.2 = k) → ∃ L : List (Str × Nat × Kd), calledF i ts = L.map (fun t => (.inr t.1, .int ((i + t.2.1 : Nat) : Int))) ∧ nmPairs ts = L.map (fun t => (t.1, t.2.2.d)) ∧ ∀ t ∈ L, t.2.1 < ts.length ∧ kindAt ts t.2.1 = t.2.2
  | _, [], _ => ⟨[], rfl, rfl, by simp⟩
  | i, (n, k') :: ts, h => by
    obtain ⟨L, e1, e2, e3⟩ := names_L (i + 1) ts fun j t e => h (j + 1) t (by simpa using e)
    have low : ∀ t ∈ L.map (fun t : Str × Nat × Kd => (t.1, t.2.1 + 1, t.2.2)), t.2.1 < ((n, k') :: ts).length ∧ kindAt ((n, k') :: ts) t.2.1 = t.2.2 := by
      intro t ht
      obtain ⟨u, hu, rfl⟩ := List.mem_map.mp ht
      obtain ⟨h1, h2⟩ := e3 u hu
      exact ⟨by simp; omega, by simpa [kindAt] using h2⟩
    have eq1 : calledF (i + 1) ts = (L.map (fun t : Str × Nat × Kd => (t.1, t.2.1 + 1, t.2.2))).map (fun t => (.inr t.1, .int ((i + t.2.1 : Nat) : Int))) := by
      rw [e1, List.map_map]
      apply List.map_congr_left
      intro t _
      have : i + 1 + t.2.1 = i + (t.2.1 + 1) := by omega
      simp only [Function.comp, this]
    have eq2 : nmPairs ts = (L.map (fun t : Str × Nat × Kd => (t.1, t.2.1 + 1, t.2.2))).map (fun t => (t.1, t.2.2.d)) := by
      rw [e2, List.map_map]; rfl
    cases n with
    | nm x k =>
      have hk : k' = k := h 0 _ rfl x k rfl
      refine ⟨(x, 0, k) :: L.map (fun t : Str × Nat × Kd => (t.1, t.2.1 + 1, t.2.2)), ?_, ?_, ?_⟩
      · simp only [calledF, List.map_cons, eq1]; simp
      · simp only [nmPairs, List.map_cons, eq2]
      · intro t ht
        rcases List.mem_cons.mp ht with rfl | ht
        · exact ⟨by simp, by simp [kindAt, hk]⟩
        · exact low t ht
    | ap w ps ms => exact ⟨_, by simp only [calledF]; exact eq1, by simp only [nmPairs]; exact eq2, low⟩
theorem rngD_cons (i : Int) (n : Nat) : rngD i (n + 1) = .int i :: rngD (i + 1) n := by
  unfold rngD
  rw [List.range_succ_eq_map]
  simp
  intro a _
  omega
theorem cut63 {ns : List Int} : cutD (dIs ns) none (some 63) = dIs (ns.take 63) := by
  unfold cutD
  have h : HT.sIx (dIs ns).length (dIs ns).length (some 63) = min 63 (dIs ns).length := HT.sIx_nat _ _ 63
  rw [HT.sIx_none, h, Nat.sub_zero, List.drop_zero]
  by_cases q : 63 ≤ ns.length
  · rw [List.length_map, Nat.min_eq_left q]; simp
  · rw [List.length_map, Nat.min_eq_right (by omega), List.take_of_length_le (by simp), List.take_of_length_le (by omega)]
theorem pow2p {p : Nat} (h1 : 1 ≤ p) (h2 : p ≤ 3) : (2 : Nat) ^ p ≤ 8 := by
  have : p = 1 ∨ p = 2 ∨ p = 3 := by omega
  rcases this with rfl | rfl | rfl <;> decide
theorem powC (p : Nat) : ((2 ^ p : Nat) : Int) = (2 : Int) ^ p := by simp
theorem pow_mono2 {a b : Nat} (h : a ≤ b) : (2 : Int) ^ a ≤ 2 ^ b := by
  have := Nat.pow_le_pow_right (n := 2) (by decide) h
  rw [← powC a, ← powC b]
  omega
theorem SX.refl {b n : Nat} {x : Sto} (h : Spr x b n) : SX b x n x := ⟨.refl, h⟩
theorem SX.app {b n : Nat} {x y : Sto} {c : Cell} (h : SX b x n y) : SX b x n (y ++ [c]) := ⟨h.fx.app, h.spr.fx (F := []) Fx.refl.app (by simp)⟩
theorem SX.own {b n k : Nat} {x y : Sto} {c : Cell} (h : SX b x n y) (hk : x.length ≤ k) (hb : b < x.length) : SX b x n (y.set k c) :=
  ⟨h.fx.set (.inr hk), h.spr.fx (F := [k]) (Fx.refl.set (.inl (by simp))) (by simp; omega)⟩
theorem SX.len {b n : Nat} {x y : Sto} (h : SX b x n y) : x.length ≤ y.length := h.fx.len
theorem SX.cell {b n j : Nat} {x y : Sto} {c : Cell} (h : SX b x n y) (e : x[j]? = some c) (hj : j ≠ b) : y[j]? = some c := h.fx.at e (by simp [hj])
theorem kind_rule {w : Str} {g : List Kd → List D → Option Kd} (h : ruleOf w = some g) (ks : List Kd) (ms : List D) : kindOf w ks ms = g ks ms := by unfold kindOf; rw [h]; rfl
/-- a term put, general -/
theorem bput_at {ts ts' : Ts} {n : Nd} {k : Kd} {i : Nat} (e : bput ts n k = (i, ts')) : (∀ j m, ndAt ts j = some m → ndAt ts' j = some m) ∧ ndAt ts' i = some n ∧ ts'.length ≤ ts.length + 1 := by
  cases q : nIx n ts with
  | some j => rw [bput_some q] at e; cases e; exact ⟨fun _ _ h => h, nIx_some q, by omega⟩
  | none =>
    rw [bput_none q] at e; cases e
    exact ⟨fun j m h => by rw [ndAt_app (ndAt_lt h)]; exact h, ndAt_last, by simp⟩

theorem bput_only {ts ts' : Ts} {n n' : Nd} {k : Kd} {i j : Nat} (e : bput ts n k = (i, ts')) (h : ndAt ts' j = some n') : n' = n ∨ ndAt ts j = some n' := by
  cases q : nIx n ts with
  | some l => rw [bput_some q] at e; cases e; exact .inr h
  | none =>
    rw [bput_none q] at e; cases e
    by_cases hj : j < ts.length
    · rw [ndAt_app hj] at h; exact .inr h
    · have := ndAt_lt h
      simp at this
      have : j = ts.length := by omega
      subst this
      rw [ndAt_last] at h
      exact .inl (by cases h; rfl)
theorem Fx.far {F : List Nat} {a b d : Sto} (h : Fx [] a b) (h' : Fx F b d) (s : ∀ k ∈ F, a.length ≤ k) : Fx [] a d := h.trans h' fun k hk => .inr (s k hk)

theorem lcD_c {inv : Sto → Prop} {g : Tgt} {tt : MT} {te : ME} {ρ : DEnv} {R : List D → Sto → Prop} {x : D} {xs acc : List D} {st : Sto} (hi : inv st) (h : g.run x ρ fun ρ1 => tt ρ1 st (fun b st1 => if b = true then te ρ1 st1 (fun d st2 => acc.length < sizeLine ∧ lcD inv g tt te ρ R xs (acc ++ [d]) st2) noX else lcD inv g tt te ρ R xs acc st1) noX) : lcD inv g tt te ρ R (x :: xs) acc st := ⟨hi, h⟩
theorem lcD_n {inv : Sto → Prop} {g : Tgt} {tt : MT} {te : ME} {ρ : DEnv} {R : List D → Sto → Prop} {acc : List D} {st : Sto} (hi : inv st) (h : R acc st) : lcD inv g tt te ρ R [] acc st := ⟨hi, h⟩
theorem atI_natG {α : Type} {xs : List α} {i : Int} {d : α} (h0 : 0 ≤ i) (e : xs[i.toNat]? = some d) : atI xs i = some d := by
  obtain ⟨j, rfl⟩ := Int.eq_ofNat_of_zero_le h0
  have e' : xs[j]? = some d := by simpa using e
  have h := ltOf e'
  have h1 : (j : Int) < xs.length := by omega
  simp [atI, ixN, h0, h1, e']
theorem dIx_nth {st : Sto} {R : DQ} {j : Nat} {xs : List D} {i : Int} {d : D} (e : st[j]? = some (.lst xs)) (h0 : 0 ≤ i) (q : xs[i.toNat]? = some d) (h : R d st) : dIx (.hdl j) (.int i) st R := dIx_h e (atI_natG h0 q) h
theorem cps_app (x y : Str) : (x ++ y).cps.toList = x.cps.toList ++ y.cps.toList := by
  show (x.cps ++ y.cps).toList = _
  simp
theorem len_app (x y : Str) : (x ++ y).length = x.length + y.length := by
  rw [← len_cps, ← len_cps, ← len_cps, cps_app, List.length_append]
theorem str_ext {x y : Str} (h : x.cps.toList = y.cps.toList) : x = y := by
  cases x; cases y; congr 1; exact Array.toList_inj.mp h
theorem isNm_let {x : Str} (h : isNm x = true) : (∀ c ∈ x.cps.toList, c ∈ letterL) ∧ 1 ≤ x.length ∧ x.length ≤ 8 := by
  unfold isNm at h
  simp only [Bool.and_eq_true, decide_eq_true_eq] at h
  refine ⟨?_, h.1.1.1.1.1, h.1.1.1.1.2⟩
  intro c hc
  have := h.2
  rw [List.all_eq_true] at this
  simpa using this c hc
theorem nm_strOk {x : Str} (h : isNm x = true) : PyData.strOk x = true := by
  have h1 := (isNm_let h).1
  unfold PyData.strOk
  rw [← Array.all_toList, List.all_eq_true]
  intro c hc
  have h2 := h1 c hc
  have : ∀ c ∈ letterL, c < 0x110000 := by decide
  exact decide_eq_true (this c h2)
theorem dEQ_self {n : Bool} {st : Sto} {R : DQ} {d : D} {p : PyData} (e : pyD d = some p) (s : SeqAt.shaped p = true) (h : R (.bl (xorB n true)) st) : dEQ n d d st R :=
  dEQ_p e e s s (by
    have hc : p.canLay0 = true := by
      unfold SeqAt.shaped at s
      rw [Bool.and_eq_true] at s
      exact s.1
    rw [PySem.SeqAt.eqv_refl p hc]; exact h)
theorem BankQ.lo {c : Cl} {B : BH} {ts tq : Ts} {st : Sto} (h : BankQ c B ts tq st) : B.b < st.length ∧ ∀ k ∈ B.fp, k < st.length := by
  have l1 := ltOf h.obj
  have l2 := ltOf h.made
  have l3 := ltOf h.sorts
  have l4 := ltOf h.placed
  have l5 := ltOf h.called
  refine ⟨l1, fun k hk => ?_⟩
  simp [BH.fp] at hk
  rcases hk with rfl | rfl | rfl | rfl <;> assumption
theorem dMulA_l {st : Sto} {R : DQ} {xs : List D} {k : Int} (h1 : -(2 ^ 63) ≤ k) (h2 : k < 2 ^ 63) (h3 : xs.length * k.toNat ≤ sizeLine) (h : R (.lst (List.replicate k.toNat xs).flatten) st) : dMulA (.lst xs) (.int k) st R := ⟨h1, h2, h3, h⟩
/-- terms stay what they are -/
def Keep (ts ts' : Ts) : Prop := ∀ j m, ndAt ts j = some m → ndAt ts' j = some m
theorem Keep.refl {ts : Ts} : Keep ts ts := fun _ _ h => h
theorem Keep.trans {a b d : Ts} (h : Keep a b) (h' : Keep b d) : Keep a d := fun j m e => h' j m (h j m e)
theorem Keep.len {ts ts' : Ts} (h : Keep ts ts') : ts.length ≤ ts'.length := by
  cases q : ts.length with
  | zero => omega
  | succ m =>
    have hm : m < ts.length := by omega
    have := ndAt_lt (h m ts[m].1 (by simp [ndAt, hm]))
    omega
theorem cut_to {xs : List Int} {i : Int} (h0 : 0 ≤ i) (h : i ≤ xs.length) : cutD (dIs xs) none (some i) = dIs (xs.take i.toNat) := by
  obtain ⟨j, rfl⟩ := Int.eq_ofNat_of_zero_le h0
  have hj : j ≤ xs.length := by omega
  unfold cutD
  rw [HT.sIx_none, HT.sIx_nat]
  simp [Nat.min_eq_left hj]
theorem cut_from {xs : List Int} {i : Int} (h0 : 0 ≤ i) (h : i ≤ xs.length) : cutD (dIs xs) (some i) none = dIs (xs.drop i.toNat) := by
  obtain ⟨j, rfl⟩ := Int.eq_ofNat_of_zero_le h0
  have hj : j ≤ xs.length := by omega
  unfold cutD
  rw [HT.sIx_none, HT.sIx_nat, List.length_map, Nat.min_eq_left hj, List.take_of_length_le (by simp)]
  simp

/-! ### the reel -/
theorem int_py (xs : List Int) : pyD (.lst (dIs xs)) = some (.list (xs.map PyData.int)) := by
  have key : ∀ xs : List Int, pyDs (dIs xs) = some (xs.map PyData.int) := by
    intro xs
    induction xs with
    | nil => rfl
    | cons x xs ih => simp only [dIs, List.map_cons, pyDs, pyD] at ih ⊢; rw [ih]
  simp only [pyD, key, Option.map_some]
theorem ints_lay : ∀ xs : List Int, PyData.canLayAll0 (xs.map PyData.int) = true
  | [] => rfl
  | x :: xs => by simp only [List.map_cons, PyData.canLayAll0, PyData.canLay0, ints_lay xs, Bool.and_self]
theorem ints_dep : ∀ xs : List Int, PyData.depthAll (xs.map PyData.int) = 0
  | [] => rfl
  | x :: xs => by simp only [List.map_cons, PyData.depthAll, PyData.depth, ints_dep xs]; rfl
theorem ints_sh (xs : List Int) : SeqAt.shaped (.list (xs.map PyData.int)) = true := by
  unfold SeqAt.shaped
  have h1 : PyData.canLay0 (.list (xs.map PyData.int)) = true := by simp only [PyData.canLay0]; exact ints_lay xs
  have h2 : PyData.depth (.list (xs.map PyData.int)) ≤ 64 := by simp only [PyData.depth, ints_dep]; omega
  rw [h1, decide_eq_true h2]; rfl
theorem ints_eqv : ∀ xs ys : List Int, PyData.eqvAll (xs.map PyData.int) (ys.map PyData.int) = decide (xs = ys)
  | [], [] => rfl
  | [], _ :: _ => by simp [PyData.eqvAll]
  | _ :: _, [] => by simp [PyData.eqvAll]
  | a :: as, b :: bs => by
    simp only [List.map_cons, PyData.eqvAll, PyData.eqv, ints_eqv as bs]
    by_cases e : a = b <;> by_cases e2 : as = bs <;> simp [e, e2]
theorem dEQ_li {n : Bool} {st : Sto} {R : DQ} {xs ys : List Int} (h : R (.bl (xorB n (decide (xs = ys)))) st) : dEQ n (.lst (dIs xs)) (.lst (dIs ys)) st R := by
  refine dEQ_p (int_py xs) (int_py ys) (ints_sh xs) (ints_sh ys) ?_
  have : PyData.eqv (.list (xs.map PyData.int)) (.list (ys.map PyData.int)) = decide (xs = ys) := by simp only [PyData.eqv]; exact ints_eqv xs ys
  rw [this]; exact h
theorem sem_law_reel (c : Cl) : ∀ ds st R xq, sp_law_reel c ds st R xq → w_law_reel c (EndsOf R xq) (startD ["_law_script", "_law_stir", "_law_cell", "_law_great"] ds) st := by
  rintro ds st R xq ⟨ns, rfl, hns, k⟩
  show w_law_reel c ⟨_, _, _, _, _⟩ [some (.scr (dIs ns)), none, none, none] st
  unfold w_law_reel
  walk_at "s"
  refine dII_i ⟨by decide, by decide, by decide⟩ ?_
  walk_at "s"
  rw [cut63]
  have e60 : (3 : Int) ^ (60 : Int).toNat = 42391158275216203514294433201 := by decide
  have e64 : (2 : Int) ^ (64 : Int).toNat = 18446744073709551616 := by decide
  have e63 : (2 : Int) ^ (63 : Int).toNat = 9223372036854775808 := by decide
  rw [e60]
  have hlen : (ns.take 63).length ≤ 63 := by rw [List.length_take]; omega
  generalize ns.take 63 = ms at hlen
  refine forD_ind (fun zs ρ st' => st' = st ∧ ∃ (left : List Int) (s : Int) (z : Option D), zs = dIs left ∧ 0 ≤ s ∧ s < 2 ^ 127 ∧ ρ = [some (.scr (dIs ns)), some (.int s), z, none]) ?_ ?_ _ _ _ ⟨rfl, ms, 42391158275216203514294433201, none, rfl, by decide, by decide, rfl⟩
  case refine_2 =>
    rintro x xs ρ st' K ⟨rfl, left, s, z, q1, s0, s1, rfl⟩ hK
    cases left with
    | nil => cases q1
    | cons a left =>
    cases q1
    refine ⟨trivial, ?_⟩
    walk_at "s"
    refine dMulA_i (mulx_ok (a := 127) (b := 127) (by omega) (by omega) (by decide)) ?_
    walk_at "s"
    refine dII_i (by decide) ?_
    walk_at "s"
    refine dII_i ⟨by decide, by decide, by decide⟩ ?_
    walk_at "s"
    refine dII_i ⟨by decide, by decide, by decide⟩ ?_
    rw [e64, e63]
    refine dMulA_i (cmx (by decide) (by decide) (by decide) (by decide)) ?_
    walk_at "s"
    refine dII_i (by decide) ?_
    walk_at "s"
    refine hK _ _ ⟨rfl, left, _, _, rfl, Int.emod_nonneg _ (by decide), ?_, rfl⟩
    exact Int.lt_of_lt_of_le (Int.emod_lt_of_pos _ (by decide)) (by decide)
  rintro ρ st' ⟨rfl, left, s, z, q1, s0, s1, rfl⟩
  refine ⟨trivial, ?_⟩
  walk_at "s"
  rw [cut63]
  generalize hms2 : ns.take 63 = ms2
  have hlen2 : ms2.length ≤ 63 := by rw [← hms2, List.length_take]; omega
  refine lcD_ind (fun ys acc st2 => st2 = st' ∧ ∃ (dn lf : List Int) (gs : List Int), ms2 = dn ++ lf ∧ ys = dIs lf ∧ acc = dIs gs ∧ gs.length ≤ dn.length ∧ ∀ g ∈ gs, 0 ≤ g) ?_ ?_ _ _ _ ⟨rfl, [], ms2, [], rfl, rfl, rfl, Nat.le_refl _, by simp⟩
  case refine_2 =>
    rintro x xs acc st2 K ⟨rfl, dn, lf, gs, b1, b2, rfl, b3, b4⟩ hK
    cases lf with
    | nil => cases b2
    | cons a lf =>
    cases b2
    have hl := congrArg List.length b1
    simp at hl
    refine ⟨trivial, ?_⟩
    walk_at "s"
    refine dII_i ⟨by decide, by decide, by decide⟩ ?_
    have e18 : (10 : Int) ^ (18 : Int).toNat = 1000000000000000000 := by decide
    walk_at "s"
    rw [e18]
    by_cases q : (1000000000000000000 : Int) ≤ a
    · refine ifT (by simpa using q) ?_
      walk_at "s"
      refine dII_i ⟨by decide, by decide, by decide⟩ ?_
      rw [e18]
      walk_at "s"
      refine ⟨by simp only [List.length_map, sizeLine]; omega, hK _ _ ⟨rfl, dn ++ [a], lf, gs ++ [a - 1000000000000000000], by rw [b1]; simp, rfl, by simp [dIs], by simp; omega, ?_⟩⟩
      intro g hg
      rcases List.mem_append.mp hg with hg | hg
      · exact b4 g hg
      · simp at hg
        omega
    · refine ifF (by simpa using q) ?_
      exact hK _ _ ⟨rfl, dn ++ [a], lf, gs, by rw [b1]; simp, rfl, rfl, by simp; omega, b4⟩
  rintro acc st2 ⟨rfl, dn, lf, gs, b1, b2, rfl, b3, b4⟩
  have hgl := congrArg List.length b1
  simp at hgl
  refine ⟨trivial, ?_⟩
  walk_at "s"
  rw [cut63]
  generalize hms3 : ns.take 63 = ms3
  have hlen3 : ms3.length ≤ 63 := by rw [← hms3, List.length_take]; omega
  refine lcD_ind (fun ys acc st3 => st3 = st2 ∧ ∃ (dn lf : List Int) (gs : List Int), ms3 = dn ++ lf ∧ ys = dIs lf ∧ acc = dIs gs ∧ gs.length = dn.length ∧ ∀ g ∈ gs, 0 ≤ g ∧ g < 1000003) ?_ ?_ _ _ _ ⟨rfl, [], ms3, [], rfl, rfl, rfl, rfl, by simp⟩
  case refine_2 =>
    rintro x xs acc st3 K ⟨rfl, dn, lf, gs, c1, c2, rfl, c3, c4⟩ hK
    cases lf with
    | nil => cases c2
    | cons a lf =>
    cases c2
    have hl := congrArg List.length c1
    simp at hl
    refine ⟨trivial, ?_⟩
    walk_at "s"
    refine dII_i (by decide) ?_
    refine ⟨by simp only [List.length_map, sizeLine]; omega, hK _ _ ⟨rfl, dn ++ [a], lf, gs ++ [a % 1000003], by rw [c1]; simp, rfl, by simp [dIs], by simp [c3], ?_⟩⟩
    intro g hg
    rcases List.mem_append.mp hg with hg | hg
    · exact c4 g hg
    · simp at hg
      subst hg
      exact ⟨Int.emod_nonneg _ (by decide), Int.emod_lt_of_pos _ (by decide)⟩
  rintro acc st3 ⟨rfl, dn3, lf3, ks, c1, c2, rfl, c3, c4⟩
  have hkl := congrArg List.length c1
  simp at hkl
  refine ⟨trivial, ?_⟩
  walk_at "s"
  refine dAddA_l rfl rfl (by simp only [List.length_map, List.length_cons, List.length_nil, sizeLine]; omega) ?_
  walk_at "s"
  refine k _ ⟨gs, ks ++ [41], 0, s, by simp [dIs], by omega, b4, by simp, by simp; omega, ?_, Int.le_refl _, Int.le_refl _, s0, s1⟩
  intro x hx
  rcases List.mem_append.mp hx with hx | hx
  · exact c4 x hx
  · simp at hx
    subst hx
    decide

theorem at3 {x y z u : D} {xs : List D} : atI (x :: y :: z :: u :: xs) 3 = some u := by
  have : (3 : Int) < (xs.length : Int) + 1 + 1 + 1 + 1 := by omega
  simp [atI, ixN, this]
theorem sem_law_draw (c : Cl) : ∀ ds st R xq, sp_law_draw c ds st R xq → w_law_draw c (EndsOf R xq) (startD ["_law_reel_here", "_law_many", "_law_told", "_law_stir", "_law_rest"] ds) st := by
  rintro ds st R xq ⟨b, m, n, rfl, ⟨cell, hc, gs, ns, kk, s, rfl, g1, g2, n1, n2, n3, k0, k1, s0, s1⟩, m0, m1, hn, k⟩
  show w_law_draw c ⟨_, _, _, _, _⟩ [some (.hdl b), some (.int m), none, none, none] st
  unfold w_law_draw
  have e64 : (2 : Int) ^ (64 : Int).toNat = 18446744073709551616 := by decide
  have e63 : (2 : Int) ^ (63 : Int).toNat = 9223372036854775808 := by decide
  have e40 : (2 : Int) ^ (40 : Int).toNat = 1099511627776 := by decide
  have out : ∀ {gs' ns' : List Int} {kk' s' : Int} {st' : Sto}, st' = st.set b (.lst [.lst (dIs gs'), .lst (dIs ns'), .int kk', .int s']) → gs'.length ≤ 63 → (∀ g ∈ gs', 0 ≤ g) → 1 ≤ ns'.length → ns'.length ≤ 64 → (∀ x ∈ ns', 0 ≤ x ∧ x < 1000003) → 0 ≤ kk' → kk' ≤ (n : Int) + 1 → 0 ≤ s' → s' < 2 ^ 127 → SX b st (n + 1) st' ∧ st'.length = st.length := by
    intro gs' ns' kk' s' st' e h1 h2 h3 h4 h5 h6 h7 h8 h9
    subst e
    exact ⟨⟨Fx.refl.set (.inl (by simp)), _, setSame hc, gs', ns', kk', s', rfl, h1, h2, h3, h4, h5, h6, by simpa using h7, h8, h9⟩, by simp⟩
  walk_at "s"
  refine dIx_h hc at0 ?_
  walk_at "s"
  refine dEQ_li (ys := []) ?_
  walk_at "s"
  cases gs with
  | cons g gs =>
    refine ifT (by simp [xorB]) ?_
    have hg := g2 g (by simp)
    walk_at "s"
    refine dIx_h hc at0 ?_
    refine dIx_l at0 ?_
    walk_at "s"
    refine dII_i (cdw m0 (by omega)) ?_
    walk_at "s"
    generalize hq : decide (m ≤ g) = q
    have hrep : List.flatten (List.replicate (if q = true then (1 : Int) else 0).toNat [D.int (g / m)]) = dIs (if q = true then [g / m] else []) := by cases q <;> rfl
    refine dMulA_l (by split <;> decide) (by split <;> decide) (by cases q <;> simp [sizeLine]) ?_
    rw [hrep]
    walk_at "s"
    refine dIx_h hc at0 ?_
    walk_at "s"
    have hcut : cutD (dIs (g :: gs)) (some 1) none = dIs gs := cutD_from1
    rw [hcut]
    refine dAddA_l rfl rfl (by simp at g1; cases q <;> simp [sizeLine] <;> omega) ?_
    walk_at "s"
    refine dSet_l hc (m := 0) rfl ?_
    have e1 : dIs (if q = true then [g / m] else []) ++ dIs gs = dIs ((if q = true then [g / m] else []) ++ gs) := by simp [dIs]
    rw [e1]
    walk_at "s"
    refine dII_i m0 ?_
    simp only [List.length_cons] at g1
    obtain ⟨o1, o2⟩ := out (st' := st.set b (.lst ([D.lst (dIs (g :: gs)), .lst (dIs ns), .int kk, .int s].set 0 (.lst (dIs ((if q = true then [g / m] else []) ++ gs)))))) (gs' := (if q = true then [g / m] else []) ++ gs) rfl (by cases q <;> simp <;> omega) (by
      intro x hx
      rcases List.mem_append.mp hx with hx | hx
      · cases q
        · simp at hx
        · simp at hx
          subst hx
          exact Int.ediv_nonneg hg (Int.le_of_lt m0)
      · exact g2 x (by simp [hx])) n1 n2 n3 k0 (by omega) s0 s1
    exact k _ _ (Int.emod_nonneg _ (by omega)) (Int.emod_lt_of_pos _ m0) o1 o2
  | nil =>
    refine ifF (by simp [xorB]) ?_
    walk_at "s"
    refine dIx_h hc at2 ?_
    walk_at "s"
    refine dSet_l hc (m := 2) rfl ?_
    generalize hst : st.set b (.lst ([D.lst (dIs []), .lst (dIs ns), .int kk, .int s].set 2 (.int (kk + 1)))) = st1
    have hc1 : st1[b]? = some (.lst [D.lst (dIs []), .lst (dIs ns), .int (kk + 1), .int s]) := by rw [← hst]; exact setSame hc
    walk_at "s"
    refine dIx_h hc1 at1 ?_
    walk_at "s"
    refine dIx_h hc1 at2 ?_
    walk_at "s"
    refine dIx_h hc1 at1 ?_
    walk_at "s"
    have hdl : (dIs ns).length = ns.length := by simp
    rw [hdl]
    refine dII_i (by omega) ?_
    have hnn := Int.emod_nonneg (kk + 1) (show (ns.length : Int) ≠ 0 by omega)
    have hi : ((kk + 1) % (ns.length : Int)).toNat < ns.length := by
      have h1 := Int.emod_lt_of_pos (kk + 1) (show (0 : Int) < (ns.length : Int) by omega)
      omega
    generalize hx : ns[((kk + 1) % (ns.length : Int)).toNat] = x
    have hxm := n3 x (by rw [← hx]; exact List.getElem_mem hi)
    refine dIx_l (atI_natG hnn (d := .int x) (by rw [List.getElem?_map, List.getElem?_eq_getElem hi, hx]; rfl)) ?_
    walk_at "s"
    refine dIx_h hc1 at3 ?_
    walk_at "s"
    refine dIx_h hc1 at3 ?_
    refine dMulA_i (mulx_ok (a := 127) (b := 127) (by omega) (by omega) (by decide)) ?_
    walk_at "s"
    refine dMulA_i (cmx (by omega) (by omega) (by omega) (by omega)) ?_
    walk_at "s"
    refine dIx_h hc1 at2 ?_
    walk_at "s"
    refine dMulA_i (cmx (by omega) (by omega) (by omega) (by omega)) ?_
    walk_at "s"
    refine dII_i ⟨by decide, by decide, by decide⟩ ?_
    walk_at "s"
    refine dII_i ⟨by decide, by decide, by decide⟩ ?_
    rw [e64, e63]
    refine dMulA_i (cmx (by decide) (by decide) (by decide) (by decide)) ?_
    walk_at "s"
    refine dII_i (by decide) ?_
    walk_at "s"
    refine dSet_l hc1 (m := 3) rfl ?_
    generalize hs' : (s * s + (x + 7) * 69621 + (kk + 1) * 1000003) % (18446744073709551616 * 9223372036854775808 - 1) = s'
    have hs0 : 0 ≤ s' := by rw [← hs']; exact Int.emod_nonneg _ (by decide)
    have hs1 : s' < 2 ^ 127 := by rw [← hs']; exact Int.lt_of_lt_of_le (Int.emod_lt_of_pos _ (by decide)) (by decide)
    obtain ⟨o1, o2⟩ := out (st' := st1.set b (.lst ([D.lst (dIs []), .lst (dIs ns), .int (kk + 1), .int s].set 3 (.int s')))) (gs' := []) (by rw [← hst, List.set_set]; rfl) (by simp) (by simp) n1 n2 n3 (by omega) (by omega) hs0 hs1
    have hc2 : (st1.set b (.lst ([D.lst (dIs []), .lst (dIs ns), .int (kk + 1), .int s].set 3 (.int s'))))[b]? = some (.lst [D.lst (dIs []), .lst (dIs ns), .int (kk + 1), .int s']) := setSame hc1
    walk_at "s"
    refine dIx_h hc2 at3 ?_
    walk_at "s"
    refine dII_i ⟨by decide, by decide, by decide⟩ ?_
    rw [e40]
    refine dII_i (cdw (by decide) (by decide)) ?_
    walk_at "s"
    refine dII_i m0 ?_
    exact k _ _ (Int.emod_nonneg _ (by omega)) (Int.emod_lt_of_pos _ m0) o1 o2

theorem sem_law_words (c : Cl) : ∀ ds st R xq, sp_law_words c ds st R xq → w_law_words c (EndsOf R xq) (startD ["_law_some"] ds) st := by
  rintro ds st R xq ⟨rfl, k⟩
  show w_law_words c ⟨_, _, _, _, _⟩ [none] st
  unfold w_law_words
  walk_at "s"
  refine dAddA_l rfl rfl (by simp [sizeLine]) ?_
  walk_at "s"
  exact k
theorem dEQ_kdsH {n : Bool} {st : Sto} {R : DQ} {as bs : List Kd} {j : Nat} (e : st[j]? = some (.lst (bs.map Kd.d))) (h : R (.bl (xorB n (decide (as = bs)))) st) : dEQ n (.lst (as.map Kd.d)) (.hdl j) st R := by
  refine ⟨1, .list (as.map Kd.py), .list (bs.map Kd.py), ?_, ?_, kds_shaped as, kds_shaped bs, ?_⟩
  · simp only [res, dr, List.map_id', pyD, kd_pys, Option.map_some]
  · simp only [res, dr, e, List.map_id', pyD, kd_pys, Option.map_some]
  · have : PyData.eqv (.list (as.map Kd.py)) (.list (bs.map Kd.py)) = decide (as = bs) := by simp only [PyData.eqv]; exact kds_eqv as bs
    rw [this]; exact h
theorem kRead_c {p n : Nat} {t : List Kd} : kRead (.arr p n :: t) [] = if t = [.word p] then some (.word n) else none := by
  match t with
  | [] => simp [kRead]
  | [.truth] => simp [kRead]
  | [.arr _ _] => simp [kRead]
  | [.word q] => simp [kRead]
  | a :: b :: l => simp [kRead]
theorem kWritten_c {p n : Nat} {t : List Kd} : kWritten (.arr p n :: t) [] = if t = [.word p, .word n] then some (.arr p n) else none := by
  match t with
  | [] => simp [kWritten]
  | [a] => simp [kWritten]
  | [.truth, _] => simp [kWritten]
  | [.arr _ _, _] => simp [kWritten]
  | [.word q, .truth] => simp [kWritten]
  | [.word q, .arr _ _] => simp [kWritten]
  | [.word q, .word r] => simp [kWritten]
  | a :: b :: d :: l => simp [kWritten]
theorem kRead_n {ks : List Kd} (h : ∀ p n t, ks ≠ .arr p n :: t) : kRead ks [] = none := by
  match ks with
  | [] => rfl
  | .truth :: _ => rfl
  | .word _ :: _ => rfl
  | .arr p n :: t => exact absurd rfl (h p n t)
theorem kWritten_n {ks : List Kd} (h : ∀ p n t, ks ≠ .arr p n :: t) : kWritten ks [] = none := by
  match ks with
  | [] => rfl
  | .truth :: _ => rfl
  | .word _ :: _ => rfl
  | .arr p n :: t => exact absurd rfl (h p n t)
theorem rw_none {w : Str} {ks : List Kd} (hw : w = "read" ∨ w = "write") (h : ∀ p n t, ks ≠ .arr p n :: t) : kindOf w ks [] = none := by
  rcases hw with rfl | rfl
  · rw [kind_rule (g := kRead) rfl, kRead_n h]
  · rw [kind_rule (g := kWritten) rfl, kWritten_n h]
theorem sem_law_array_kind (c : Cl) : ∀ ds st R xq, sp_law_array_kind c ds st R xq → w_law_array_kind c (EndsOf R xq) (startD ["_law_word", "_law_kinds", "_law_due"] ds) st := by
  rintro ds st R xq ⟨w, ks, rfl, hw, hl, k⟩
  show w_law_array_kind c ⟨_, _, _, _, _⟩ [some (.str w), some (.lst (ks.map Kd.d)), none] st
  unfold w_law_array_kind
  walk_at "s"
  refine dEQ_kds (bs := []) ?_
  have kn : ∀ (h : ∀ p n t, ks ≠ .arr p n :: t), R .non st := by
    intro h
    have := k st .refl
    rwa [rw_none hw h] at this
  match ks with
  | [] =>
    walk_at "s"
    exact kn (by simp)
  | .truth :: t =>
    walk_at "s"
    refine ixL0 ?_
    walk_at "s"
    refine ixK0 ?_
    walk_at "s"
    exact kn (by simp)
  | .word m :: t =>
    walk_at "s"
    refine ixL0 ?_
    walk_at "s"
    refine ixK0 ?_
    walk_at "s"
    exact kn (by simp)
  | .arr p n :: t =>
    walk_at "s"
    refine ixL0 ?_
    walk_at "s"
    refine ixK0 ?_
    walk_at "s"
    refine ixL0 ?_
    walk_at "s"
    refine ixT1 ?_
    walk_at "s"
    have cut : cutD ((Kd.arr p n :: t).map Kd.d) (some 1) none = t.map Kd.d := cutD_from1
    rcases hw with rfl | rfl
    · refine ifF (by decide) ?_
      walk_at "s"
      rw [cut]
      refine dEQ_kdsH (bs := [.word p]) appN ?_
      have kk := k (st ++ [Cell.lst [Kd.d (.word p)]]) Fx.refl.app
      rw [kind_rule (g := kRead) rfl, kRead_c] at kk
      by_cases e : t = [.word p]
      · rw [if_pos e] at kk
        refine ifF (by simp [xorB, e]) ?_
        walk_at "s"
        refine ixL0 ?_
        walk_at "s"
        refine ixT2 ?_
        walk_at "s"
        exact kk
      · rw [if_neg e] at kk
        refine ifT (by simp [xorB, e]) ?_
        walk_at "s"
        exact kk
    · refine ifT (by decide) ?_
      walk_at "s"
      refine ⟨isLD_h appN, ?_⟩
      walk_at "s"
      refine ixL0 ?_
      walk_at "s"
      refine ixT2 ?_
      walk_at "s"
      refine dApp_h appN (by simp [sizeLine]) ?_
      walk_at "s"
      rw [cut]
      refine dEQ_kdsH (bs := [.word p, .word n]) (setSame appN) ?_
      have kk := k ((st ++ [Cell.lst [Kd.d (.word p)]]).set st.length (Cell.lst [Kd.d (.word p), Kd.d (.word n)])) (Fx.refl.app.set (.inr (Nat.le_refl _)))
      rw [kind_rule (g := kWritten) rfl, kWritten_c] at kk
      by_cases e : t = [.word p, .word n]
      · rw [if_pos e] at kk
        refine ifF (by simp [xorB, e]) ?_
        walk_at "s"
        refine ixL0 ?_
        exact kk
      · rw [if_neg e] at kk
        refine ifT (by simp [xorB, e]) ?_
        walk_at "s"
        exact kk

def widesK : List Kd → List Int
  | [] => []
  | .word n :: ks => (n : Int) :: widesK ks
  | _ :: ks => widesK ks
theorem wides_app : ∀ as bs : List Kd, widesK (as ++ bs) = widesK as ++ widesK bs
  | [], _ => rfl
  | .truth :: as, bs => wides_app as bs
  | .word n :: as, bs => by simp [widesK, wides_app as bs]
  | .arr _ _ :: as, bs => wides_app as bs
theorem wides_len : ∀ as : List Kd, (widesK as).length ≤ as.length
  | [] => Nat.le_refl _
  | .truth :: as => Nat.le_succ_of_le (wides_len as)
  | .word n :: as => by simp [widesK, wides_len as]
  | .arr _ _ :: as => Nat.le_succ_of_le (wides_len as)
theorem wides_2 {ks : List Kd} (h : ks.length = 2) (h2 : (widesK ks).length = 2) : ∃ a b, ks = [.word a, .word b] := by
  match ks, h with
  | [.word a, .word b], _ => exact ⟨a, b, rfl⟩
  | [.truth, .truth], _ => simp [widesK] at h2
  | [.truth, .word _], _ => simp [widesK] at h2
  | [.truth, .arr _ _], _ => simp [widesK] at h2
  | [.arr _ _, .truth], _ => simp [widesK] at h2
  | [.arr _ _, .word _], _ => simp [widesK] at h2
  | [.arr _ _, .arr _ _], _ => simp [widesK] at h2
  | [.word _, .truth], _ => simp [widesK] at h2
  | [.word _, .arr _ _], _ => simp [widesK] at h2
theorem wides_1 {ks : List Kd} (h : ks.length = 1) (h2 : (widesK ks).length = 1) : ∃ a, ks = [.word a] := by
  match ks, h with
  | [.word a], _ => exact ⟨a, rfl⟩
  | [.truth], _ => simp [widesK] at h2
  | [.arr _ _], _ => simp [widesK] at h2
def wordsL : List Str := ["band", "bor", "bxor", "add", "sub", "mul", "div", "rest", "shl", "shr", "sar"]
def ownL : List Str := ["number", "cut", "true", "false", "not", "and", "or", "same", "choose", "read", "write", "flip", "join", "less", "sless"]
theorem words_own : ∀ w ∈ wordsL, ∀ x ∈ ownL, w ≠ x := by decide +kernel
theorem word_or : ∀ w ∈ wordL, w ∈ ownL ∨ w ∈ wordsL := by decide +kernel
theorem words_rule {w : Str} (h : w ∈ wordsL) : ruleOf w = some kWords := by
  simp only [wordsL, List.mem_cons, List.not_mem_nil, or_false] at h
  rcases h with rfl | rfl | rfl | rfl | rfl | rfl | rfl | rfl | rfl | rfl | rfl <;> rfl
theorem kind_marks {w : Str} {ks : List Kd} {m : D} {ms : List D} (h : w ∈ wordL) (h1 : w ≠ "number") (h2 : w ≠ "cut") : kindOf w ks (m :: ms) = none := by
  rcases word_or w h with h | h
  · simp only [ownL, List.mem_cons, List.not_mem_nil, or_false] at h
    rcases h with rfl | rfl | rfl | rfl | rfl | rfl | rfl | rfl | rfl | rfl | rfl | rfl | rfl | rfl | rfl
    · exact absurd rfl h1
    · exact absurd rfl h2
    · rw [kind_rule (g := kNothing) rfl]; simp [kNothing]
    · rw [kind_rule (g := kNothing) rfl]; simp [kNothing]
    · rw [kind_rule (g := kTruth) rfl]; simp [kTruth]
    · rw [kind_rule (g := kTruths) rfl]; simp [kTruths]
    · rw [kind_rule (g := kTruths) rfl]; simp [kTruths]
    · rw [kind_rule (g := kAlike) rfl]; unfold kAlike; split <;> simp
    · rw [kind_rule (g := kChoice) rfl]; unfold kChoice; split <;> simp
    · rw [kind_rule (g := kRead) rfl]; unfold kRead; split <;> simp
    · rw [kind_rule (g := kWritten) rfl]; unfold kWritten; split <;> simp
    · rw [kind_rule (g := kWord) rfl]; unfold kWord; split <;> simp
    · rw [kind_rule (g := kJoined) rfl]; unfold kJoined; split <;> simp
    · rw [kind_rule (g := kLess) rfl]; unfold kLess kWords; split <;> simp
    · rw [kind_rule (g := kLess) rfl]; unfold kLess kWords; split <;> simp
  · rw [kind_rule (words_rule h)]; unfold kWords; split <;> simp
theorem ms_py (ms : List Int) : pyD (.tup (dIs ms)) = some (.tuple (ms.map PyData.int)) := by
  have := int_py ms
  simp only [pyD] at this ⊢
  cases q : pyDs (dIs ms) with
  | none => rw [q] at this; cases this
  | some l => rw [q] at this; simp at this; simp [this]
theorem ms_sh (ms : List Int) : SeqAt.shaped (.tuple (ms.map PyData.int)) = true := by
  have := ints_sh ms
  unfold SeqAt.shaped at this ⊢
  simpa [PyData.canLay0, PyData.depth] using this
theorem dEQ_ti {n : Bool} {st : Sto} {R : DQ} {xs ys : List Int} (h : R (.bl (xorB n (decide (xs = ys)))) st) : dEQ n (.tup (dIs xs)) (.tup (dIs ys)) st R := by
  refine dEQ_p (ms_py xs) (ms_py ys) (ms_sh xs) (ms_sh ys) ?_
  have : PyData.eqv (.tuple (xs.map PyData.int)) (.tuple (ys.map PyData.int)) = decide (xs = ys) := by simp only [PyData.eqv]; exact ints_eqv xs ys
  rw [this]; exact h
/-- the kind, once the words' kinds are drawn out -/
def wKind2 (c : Cl) (rest : MS) : MS :=
  (sSeq (sAs (mCa dLen (maCons (mVar 1) maNil)) (gNm 3))
  (sSeq (sAs (mLc (miSeq (mVar 1)) (.nm 7) (mTest (mOp (dEQ false) (mOp dIx (mVar 7) (mC (.int 0))) (mC (.str "word")))) (mOp dIx (mVar 7) (mC (.int 1))) [7]) (gNm 4))
  (sSeq (sAs (mTup (maCons (mC (.str "truth")) maNil)) (gNm 5)) rest)))
theorem kind_start (c : Cl) {rest : MS} {e : DEnds} {st : Sto} {w : Str} {ks : List Kd} {ms : List Int} (hl : ks.length ≤ 1000)
    (h : rest e [some (.str w), some (.lst (ks.map Kd.d)), some (.tup (dIs ms)), some (.int (ks.length : Nat)), some (.lst (dIs (widesK ks))), some Kd.truth.d, none, none] st) :
    wKind2 c rest e [some (.str w), some (.lst (ks.map Kd.d)), some (.tup (dIs ms)), none, none, none, none, none] st := by
  unfold wKind2
  walk_at "s"
  refine lcD_ind (fun ys acc st' => st' = st ∧ ∃ dn lf : List Kd, ks = dn ++ lf ∧ ys = lf.map Kd.d ∧ acc = dIs (widesK dn)) ?_ ?_ _ _ _ ⟨rfl, [], ks, rfl, rfl, rfl⟩
  case refine_2 =>
    rintro y ys acc st' K ⟨rfl, dn, lf, a1, a2, rfl⟩ hK
    cases lf with
    | nil => cases a2
    | cons v lf =>
    cases a2
    have hlen := congrArg List.length a1
    simp at hlen
    have hw := wides_len dn
    refine ⟨trivial, ?_⟩
    walk_at "s"
    cases v with
    | truth =>
      refine ixK0 ?_
      walk_at "s"
      exact hK _ _ ⟨rfl, dn ++ [.truth], lf, by rw [a1]; simp, rfl, by simp [wides_app, widesK]⟩
    | arr p n =>
      refine ixK0 ?_
      walk_at "s"
      exact hK _ _ ⟨rfl, dn ++ [.arr p n], lf, by rw [a1]; simp, rfl, by simp [wides_app, widesK]⟩
    | word n =>
      refine ixK0 ?_
      walk_at "s"
      refine ixT1 ?_
      exact ⟨by simp only [List.length_map, sizeLine]; omega, hK _ _ ⟨rfl, dn ++ [.word n], lf, by rw [a1]; simp, rfl, by simp [wides_app, widesK]⟩⟩
  rintro acc st' ⟨rfl, dn, lf, a1, a2, rfl⟩
  refine ⟨trivial, ?_⟩
  cases lf with
  | cons v lf => cases a2
  | nil =>
    rw [List.append_nil] at a1
    subst a1
    walk_at "s"
    have : (ks.map Kd.d).length = ks.length := by simp
    rw [this]
    exact h

theorem dSum_l {st : Sto} {R : DQ} {xs : List D} {bs : List Int} (e : allI xs = some bs) (h : R (.int bs.sum) st) : dSum [.lst xs] st R := by
  unfold dSum onL dr
  exact ⟨bs, e, h⟩
theorem cpw' {a : Int} (h0 : 0 ≤ a) (h : a ≤ 1000) : CPow 1 a := by
  obtain ⟨j, rfl⟩ := Int.eq_ofNat_of_zero_le h0
  exact cpw (by omega)
theorem kChoice_len {ks : List Kd} {ms : List D} (h : ks.length ≠ 3) : kChoice ks ms = none := by
  match ks with
  | [] => rfl
  | [.truth] => rfl
  | [.word _] => rfl
  | [.arr _ _] => rfl
  | [.truth, _] => rfl
  | [.word _, _] => rfl
  | [.arr _ _, _] => rfl
  | [_, _, _] => exact absurd rfl h
  | .truth :: _ :: _ :: _ :: _ => rfl
  | .word _ :: _ :: _ :: _ :: _ => rfl
  | .arr _ _ :: _ :: _ :: _ :: _ => rfl
theorem two_none {ks : List Kd} {ms : List D} (h : ¬∃ a b, ks = [Kd.word a, Kd.word b]) : kJoined ks ms = none ∧ kWords ks ms = none := by
  match ks with
  | [] => exact ⟨rfl, rfl⟩
  | [.truth] => exact ⟨rfl, rfl⟩
  | [.word _] => exact ⟨rfl, rfl⟩
  | [.arr _ _] => exact ⟨rfl, rfl⟩
  | [.word a, .word b] => exact absurd ⟨a, b, rfl⟩ h
  | [.word a, .truth] => exact ⟨rfl, by simp [kWords]⟩
  | [.word a, .arr _ _] => exact ⟨rfl, by simp [kWords]⟩
  | [.truth, _] => exact ⟨rfl, rfl⟩
  | [.arr _ _, _] => exact ⟨rfl, rfl⟩
  | .truth :: _ :: _ :: _ => exact ⟨rfl, rfl⟩
  | .word _ :: .truth :: _ :: _ => exact ⟨rfl, rfl⟩
  | .word _ :: .word _ :: _ :: _ => exact ⟨rfl, rfl⟩
  | .word _ :: .arr _ _ :: _ :: _ => exact ⟨rfl, rfl⟩
  | .arr _ _ :: _ :: _ :: _ => exact ⟨rfl, rfl⟩
theorem kCut_len {ks : List Kd} {ms : List D} (h : ms.length ≠ 2) : kCut ks ms = none := by
  match ks, ms with
  | [], _ => rfl
  | .truth :: _, _ => rfl
  | .arr _ _ :: _, _ => rfl
  | .word _ :: _ :: _, _ => rfl
  | [.word _], [] => rfl
  | [.word _], [.int _] => rfl
  | [.word _], [.bl _] => rfl
  | [.word _], [.str _] => rfl
  | [.word _], [.non] => rfl
  | [.word _], [.lst _] => rfl
  | [.word _], [.tup _] => rfl
  | [.word _], [.scr _] => rfl
  | [.word _], [.hdl _] => rfl
  | [.word _], [.raw _] => rfl
  | [.word _], [.exc _] => rfl
  | [.word _], [_, _] => exact absurd rfl h
  | [.word _], a :: b :: d :: t => cases a <;> first | rfl | (cases b <;> rfl)
theorem kCut_ks {ks : List Kd} {ms : List D} (h : ∀ n, ks ≠ [.word n]) : kCut ks ms = none := by
  match ks with
  | [] => rfl
  | .truth :: _ => rfl
  | .arr _ _ :: _ => rfl
  | .word _ :: _ :: _ => rfl
  | [.word n] => exact absurd rfl (h n)
theorem kMarks_ne {ks : List Kd} {ms : List D} (h : ks ≠ []) : kMarks ks ms = none := by
  cases ks with
  | nil => exact absurd rfl h
  | cons k ks => rfl
theorem sem_law_kind (c : Cl) : ∀ ds st R xq, sp_law_kind c ds st R xq → w_law_kind c (EndsOf R xq) (startD ["_law_word", "_law_kinds", "_law_tags", "_law_many", "_law_wide", "_law_truth", "_law_fits", "_law_kind_here"] ds) st := by
  rintro ds st R xq ⟨w, ks, ms, rfl, hw, hk, hl, hm, k⟩
  show w_law_kind c ⟨_, _, _, _, _⟩ [some (.str w), some (.lst (ks.map Kd.d)), some (.tup (dIs ms)), none, none, none, none, none] st
  unfold w_law_kind
  refine kind_start c hl ?_
  by_cases e1 : w = "number"
  · subst e1
    have kk := k st .refl
    clear k
    rw [kind_rule (g := kMarks) rfl] at kk
    walk_at "s"
    cases ks with
    | cons q ks =>
      refine ifF (by simp [xorB]; omega) ?_
      walk_at "s"
      exact kk
    | nil =>
    refine ifT (by simp [xorB]) ?_
    walk_at "s"
    match ms with
    | [] =>
      refine ifF (by decide) ?_
      walk_at "s"
      exact kk
    | [a] =>
      refine ifF (by simp [xorB]) ?_
      walk_at "s"
      exact kk
    | a :: b :: d :: t =>
      refine ifF (by simp [xorB]; omega) ?_
      walk_at "s"
      exact kk
    | [a, b] =>
      refine ifT (by simp [xorB]) ?_
      walk_at "s"
      refine ixT0 ?_
      walk_at "s"
      have kn : ¬(isW (.int a) 1 8 = true ∧ isW (.int b) 0 (2 ^ a.toNat - 1) = true) → R .non st := by
        intro h
        have : kMarks [] (dIs [a, b]) = none := by
          show (if isW (.int a) 1 8 = true ∧ isW (.int b) 0 (2 ^ a.toNat - 1) = true then some (Kd.word a.toNat) else none) = none
          rw [if_neg h]
        rwa [this] at kk
      by_cases q1 : 1 ≤ a
      case neg =>
        refine ifF (by simpa using q1) ?_
        walk_at "s"
        exact kn (by rw [isW_int]; omega)
      refine ifT (by simpa using q1) ?_
      walk_at "s"
      by_cases q2 : a ≤ 8
      case neg =>
        refine ifF (by simpa using q2) ?_
        walk_at "s"
        exact kn (by rw [isW_int]; omega)
      refine ifT (by simpa using q2) ?_
      walk_at "s"
      refine ixT1 ?_
      walk_at "s"
      by_cases q3 : 0 ≤ b
      case neg =>
        refine ifF (by simpa using q3) ?_
        walk_at "s"
        exact kn (by rw [isW_int, isW_int]; omega)
      refine ifT (by simpa using q3) ?_
      walk_at "s"
      refine ixT0 ?_
      walk_at "s"
      have mx : (if (if a < 8 then a else 8) > 0 then if a < 8 then a else 8 else 0) = a := by split <;> split <;> omega
      rw [mx]
      refine dII_i (cpw' (by omega) (by omega)) ?_
      rw [Int.one_mul]
      walk_at "s"
      by_cases q4 : b < 2 ^ a.toNat
      · walk_at "s"
        refine ifT (by simpa using q4) ?_
        walk_at "s"
        refine ixT0 ?_
        walk_at "s"
        have hp := pow_pos2 a.toNat
        have : kMarks [] (dIs [a, b]) = some (Kd.word a.toNat) := by
          show (if isW (.int a) 1 8 = true ∧ isW (.int b) 0 (2 ^ a.toNat - 1) = true then some (Kd.word a.toNat) else none) = _
          rw [if_pos]
          rw [isW_int, isW_int]; omega
        rw [this] at kk
        have ha : ((a.toNat : Nat) : Int) = a := by omega
        simpa [optD, Kd.d, Kd.its, ha] using kk
      · refine ifF (by simpa using q4) ?_
        walk_at "s"
        exact kn (by rw [isW_int, isW_int]; omega)
  by_cases e2 : w = "cut"
  · subst e2
    have kk := k st .refl
    clear k
    rw [kind_rule (g := kCut) rfl] at kk
    walk_at "s"
    match ks with
    | [] =>
      refine ifF (by simp [xorB]) ?_
      walk_at "s"
      rwa [kCut_ks (by simp)] at kk
    | a :: b :: t =>
      refine ifF (by simp [xorB]; omega) ?_
      walk_at "s"
      rwa [kCut_ks (by simp)] at kk
    | [.truth] =>
      refine ifT (by simp [xorB]) ?_
      walk_at "s"
      refine dEQ_li (xs := []) (ys := []) ?_
      walk_at "s"
      exact kk
    | [.arr _ _] =>
      refine ifT (by simp [xorB]) ?_
      walk_at "s"
      refine dEQ_li (xs := []) (ys := []) ?_
      walk_at "s"
      exact kk
    | [.word n] =>
      refine ifT (by simp [xorB]) ?_
      walk_at "s"
      refine dEQ_li (xs := [(n : Int)]) (ys := []) ?_
      walk_at "s"
      match ms with
      | [] =>
        refine ifF (by decide) ?_
        walk_at "s"
        rwa [kCut_len (by simp)] at kk
      | [a] =>
        refine ifF (by simp [xorB]) ?_
        walk_at "s"
        rwa [kCut_len (by simp)] at kk
      | a :: b :: d :: t =>
        refine ifF (by simp [xorB]; omega) ?_
        walk_at "s"
        rwa [kCut_len (by simp)] at kk
      | [a, b] =>
        refine ifT (by simp [xorB]) ?_
        walk_at "s"
        walk_at "s"
        refine ixT1 ?_
        walk_at "s"
        have kn : ¬(isW (.int a) 0 ((n : Int) - 1) = true ∧ isW (.int b) 0 a = true) → R .non st := by
          intro h
          have : kCut [.word n] (dIs [a, b]) = none := by
            show (if isW (.int a) 0 ((n : Int) - 1) = true ∧ isW (.int b) 0 a = true then some (Kd.word (a - b + 1).toNat) else none) = none
            rw [if_neg h]
          rwa [this] at kk
        rw [isW_int, isW_int] at kn
        by_cases q1 : 0 ≤ b
        case neg =>
          refine ifF (by simpa using q1) ?_
          walk_at "s"
          exact kn (by omega)
        refine ifT (by simpa using q1) ?_
        walk_at "s"
        refine ixT0 ?_
        walk_at "s"
        by_cases q2 : b ≤ a
        case neg =>
          refine ifF (by simpa using q2) ?_
          walk_at "s"
          exact kn (by omega)
        refine ifT (by simpa using q2) ?_
        walk_at "s"
        refine dAddA_l rfl rfl (by simp [sizeLine, widesK]) ?_
        walk_at "s"
        refine ixL0 ?_
        walk_at "s"
        by_cases q3 : a < n
        case neg =>
          refine ifF (by simpa using q3) ?_
          walk_at "s"
          exact kn (by omega)
        refine ifT (by simpa using q3) ?_
        walk_at "s"
        refine ixT0 ?_
        walk_at "s"
        refine ixT1 ?_
        walk_at "s"
        have : kCut [.word n] (dIs [a, b]) = some (Kd.word (a - b + 1).toNat) := by
          show (if isW (.int a) 0 ((n : Int) - 1) = true ∧ isW (.int b) 0 a = true then some (Kd.word (a - b + 1).toNat) else none) = _
          rw [if_pos]
          rw [isW_int, isW_int]; omega
        rw [this] at kk
        have ha : (((a - b + 1).toNat : Nat) : Int) = a - b + 1 := by omega
        simpa [optD, Kd.d, Kd.its, ha] using kk
  walk_at "s"
  refine ifF (by simpa using e1) ?_
  walk_at "s"
  refine ifF (by simpa using e2) ?_
  walk_at "s"
  refine dEQ_ti (ys := []) ?_
  walk_at "s"
  cases ms with
  | cons m ms =>
    refine ifT (by simp [xorB]) ?_
    walk_at "s"
    have kk := k st .refl
    rwa [show dIs (m :: ms) = .int m :: dIs ms from rfl, kind_marks hw e1 e2] at kk
  | nil =>
  refine ifF (by simp [xorB]) ?_
  walk_at "s"
  rcases word_or w hw with h | h
  · simp only [ownL, List.mem_cons, List.not_mem_nil, or_false] at h
    rcases h with rfl | rfl | rfl | rfl | rfl | rfl | rfl | rfl | rfl | rfl | rfl | rfl | rfl | rfl | rfl
    · exact absurd rfl e1
    · exact absurd rfl e2
    · walk_at "s"
      refine dIN_tupS (ys := ["true", "false", "not", "and", "or"]) ?_
      walk_at "s"
      refine ⟨[(.inr "true", .int 0), (.inr "false", .int 0), (.inr "not", .int 1)], rfl, by decide, isKD_h appN, ?_⟩
      walk_at "s"
      rw [onK_hdl appN]
      refine ⟨.inr "true", rfl, ?_⟩
      have kk := k (st ++ [Cell.dK (mergeD [] [(.inr "true", .int 0), (.inr "false", .int 0), (.inr "not", .int 1)])]) Fx.refl.app
      rw [kind_rule (g := kNothing) rfl] at kk
      show dMulA (.lst [Kd.truth.d]) (.int 0) _ _
      refine dMulA_l (by decide) (by decide) (by simp [sizeLine]) ?_
      refine dEQ_kds (bs := List.replicate 0 Kd.truth) ?_
      by_cases q : ks = List.replicate 0 Kd.truth
      · subst q
        walk_at "s"
        exact kk
      · rw [show kNothing ks (dIs []) = none from if_neg fun z => q z.1] at kk
        refine ifF (by simpa [xorB] using q) ?_
        walk_at "s"
        exact kk
    · walk_at "s"
      refine dIN_tupS (ys := ["true", "false", "not", "and", "or"]) ?_
      walk_at "s"
      refine ⟨[(.inr "true", .int 0), (.inr "false", .int 0), (.inr "not", .int 1)], rfl, by decide, isKD_h appN, ?_⟩
      walk_at "s"
      rw [onK_hdl appN]
      refine ⟨.inr "false", rfl, ?_⟩
      have kk := k (st ++ [Cell.dK (mergeD [] [(.inr "true", .int 0), (.inr "false", .int 0), (.inr "not", .int 1)])]) Fx.refl.app
      rw [kind_rule (g := kNothing) rfl] at kk
      show dMulA (.lst [Kd.truth.d]) (.int 0) _ _
      refine dMulA_l (by decide) (by decide) (by simp [sizeLine]) ?_
      refine dEQ_kds (bs := List.replicate 0 Kd.truth) ?_
      by_cases q : ks = List.replicate 0 Kd.truth
      · subst q
        walk_at "s"
        exact kk
      · rw [show kNothing ks (dIs []) = none from if_neg fun z => q z.1] at kk
        refine ifF (by simpa [xorB] using q) ?_
        walk_at "s"
        exact kk
    · walk_at "s"
      refine dIN_tupS (ys := ["true", "false", "not", "and", "or"]) ?_
      walk_at "s"
      refine ⟨[(.inr "true", .int 0), (.inr "false", .int 0), (.inr "not", .int 1)], rfl, by decide, isKD_h appN, ?_⟩
      walk_at "s"
      rw [onK_hdl appN]
      refine ⟨.inr "not", rfl, ?_⟩
      have kk := k (st ++ [Cell.dK (mergeD [] [(.inr "true", .int 0), (.inr "false", .int 0), (.inr "not", .int 1)])]) Fx.refl.app
      rw [kind_rule (g := kTruth) rfl] at kk
      show dMulA (.lst [Kd.truth.d]) (.int 1) _ _
      refine dMulA_l (by decide) (by decide) (by simp [sizeLine]) ?_
      refine dEQ_kds (bs := List.replicate 1 Kd.truth) ?_
      by_cases q : ks = List.replicate 1 Kd.truth
      · subst q
        walk_at "s"
        exact kk
      · rw [show kTruth ks (dIs []) = none from if_neg fun z => q z.1] at kk
        refine ifF (by simpa [xorB] using q) ?_
        walk_at "s"
        exact kk
    · walk_at "s"
      refine dIN_tupS (ys := ["true", "false", "not", "and", "or"]) ?_
      walk_at "s"
      refine ⟨[(.inr "true", .int 0), (.inr "false", .int 0), (.inr "not", .int 1)], rfl, by decide, isKD_h appN, ?_⟩
      walk_at "s"
      rw [onK_hdl appN]
      refine ⟨.inr "and", rfl, ?_⟩
      have kk := k (st ++ [Cell.dK (mergeD [] [(.inr "true", .int 0), (.inr "false", .int 0), (.inr "not", .int 1)])]) Fx.refl.app
      rw [kind_rule (g := kTruths) rfl] at kk
      show dMulA (.lst [Kd.truth.d]) (.int 2) _ _
      refine dMulA_l (by decide) (by decide) (by simp [sizeLine]) ?_
      refine dEQ_kds (bs := List.replicate 2 Kd.truth) ?_
      by_cases q : ks = List.replicate 2 Kd.truth
      · subst q
        walk_at "s"
        exact kk
      · rw [show kTruths ks (dIs []) = none from if_neg fun z => q z.1] at kk
        refine ifF (by simpa [xorB] using q) ?_
        walk_at "s"
        exact kk
    · walk_at "s"
      refine dIN_tupS (ys := ["true", "false", "not", "and", "or"]) ?_
      walk_at "s"
      refine ⟨[(.inr "true", .int 0), (.inr "false", .int 0), (.inr "not", .int 1)], rfl, by decide, isKD_h appN, ?_⟩
      walk_at "s"
      rw [onK_hdl appN]
      refine ⟨.inr "or", rfl, ?_⟩
      have kk := k (st ++ [Cell.dK (mergeD [] [(.inr "true", .int 0), (.inr "false", .int 0), (.inr "not", .int 1)])]) Fx.refl.app
      rw [kind_rule (g := kTruths) rfl] at kk
      show dMulA (.lst [Kd.truth.d]) (.int 2) _ _
      refine dMulA_l (by decide) (by decide) (by simp [sizeLine]) ?_
      refine dEQ_kds (bs := List.replicate 2 Kd.truth) ?_
      by_cases q : ks = List.replicate 2 Kd.truth
      · subst q
        walk_at "s"
        exact kk
      · rw [show kTruths ks (dIs []) = none from if_neg fun z => q z.1] at kk
        refine ifF (by simpa [xorB] using q) ?_
        walk_at "s"
        exact kk
    · walk_at "s"
      refine dIN_tupS (ys := ["true", "false", "not", "and", "or"]) ?_
      walk_at "s"
      have kk := k st .refl
      rw [kind_rule (g := kAlike) rfl] at kk
      match ks with
      | [] =>
        refine ifF (by decide) ?_
        walk_at "s"
        exact kk
      | [x] =>
        refine ifF (by simp [xorB]) ?_
        walk_at "s"
        exact kk
      | a :: b :: d :: t =>
        refine ifF (by simp [xorB]; omega) ?_
        walk_at "s"
        exact kk
      | [a, b] =>
        refine ifT (by simp [xorB]) ?_
        walk_at "s"
        refine ixL0 ?_
        walk_at "s"
        refine ixL1 ?_
        refine dEQ_kd ?_
        by_cases q : a = b
        · rw [show kAlike [a, b] (dIs []) = some .truth from if_pos ⟨q, rfl⟩] at kk
          refine ifT (by simp [xorB, q]) ?_
          walk_at "s"
          exact kk
        · rw [show kAlike [a, b] (dIs []) = none from if_neg fun z => q z.1] at kk
          refine ifF (by simp [xorB, q]) ?_
          walk_at "s"
          exact kk
    · walk_at "s"
      refine dIN_tupS (ys := ["true", "false", "not", "and", "or"]) ?_
      walk_at "s"
      have kk := k st .refl
      rw [kind_rule (g := kChoice) rfl] at kk
      match ks with
      | [] =>
        refine ifF (by decide) ?_
        walk_at "s"
        rwa [kChoice_len (by simp)] at kk
      | [x] =>
        refine ifF (by simp [xorB]) ?_
        walk_at "s"
        rwa [kChoice_len (by simp)] at kk
      | [x, y] =>
        refine ifF (by simp [xorB]) ?_
        walk_at "s"
        rwa [kChoice_len (by simp)] at kk
      | a :: b :: d :: e :: t =>
        refine ifF (by simp [xorB]; omega) ?_
        walk_at "s"
        rwa [kChoice_len (by simp)] at kk
      | [a, b, d] =>
        refine ifT (by simp [xorB]) ?_
        walk_at "s"
        refine ixL0 ?_
        walk_at "s"
        refine dEQ_kd (b := .truth) ?_
        by_cases q0 : a = .truth
        · subst q0
          walk_at "s"
          refine ixL1 ?_
          walk_at "s"
          refine ixL2 ?_
          refine dEQ_kd ?_
          by_cases q : b = d
          · rw [show kChoice [.truth, b, d] (dIs []) = some b from if_pos ⟨q, rfl⟩] at kk
            refine ifT (by simp [xorB, q]) ?_
            walk_at "s"
            refine ixL1 ?_
            exact kk
          · rw [show kChoice [.truth, b, d] (dIs []) = none from if_neg fun z => q z.1] at kk
            refine ifF (by simp [xorB, q]) ?_
            walk_at "s"
            exact kk
        · rw [show kChoice [a, b, d] (dIs []) = none by cases a <;> first | rfl | exact absurd rfl q0] at kk
          refine ifF (by simp [xorB, q0]) ?_
          walk_at "s"
          exact kk
    · walk_at "s"
      refine dIN_tupS (ys := ["true", "false", "not", "and", "or"]) ?_
      walk_at "s"
      exact ⟨_, _, rfl, .inl rfl, hl, k⟩
    · walk_at "s"
      refine dIN_tupS (ys := ["true", "false", "not", "and", "or"]) ?_
      walk_at "s"
      exact ⟨_, _, rfl, .inr rfl, hl, k⟩
    · walk_at "s"
      refine dIN_tupS (ys := ["true", "false", "not", "and", "or"]) ?_
      walk_at "s"
      have kk := k st .refl
      rw [kind_rule (g := kWord) rfl] at kk
      match ks with
      | [] =>
        refine ifF (by decide) ?_
        walk_at "s"
        exact kk
      | .truth :: [] =>
        refine ifT (by simp [xorB]) ?_
        walk_at "s"
        exact kk
      | .arr _ _ :: [] =>
        refine ifT (by simp [xorB]) ?_
        walk_at "s"
        exact kk
      | .word n :: [] =>
        refine ifT (by simp [xorB]) ?_
        walk_at "s"
        refine ixL0 ?_
        exact kk
      | a :: b :: t =>
        refine ifF (by simp [xorB]; omega) ?_
        walk_at "s"
        rwa [show kWord (a :: b :: t) (dIs []) = none by cases a <;> rfl] at kk
    · walk_at "s"
      refine dIN_tupS (ys := ["true", "false", "not", "and", "or"]) ?_
      walk_at "s"
      have kk := k st .refl
      rw [kind_rule (g := kJoined) rfl] at kk
      by_cases hx : ∃ a b, ks = [Kd.word a, Kd.word b]
      case neg =>
        rw [(two_none hx).1] at kk
        by_cases l1 : ks.length = 2
        · refine ifF (by simp [xorB]; omega) ?_
          walk_at "s"
          refine ifT (by simp [xorB]; exact fun z => hx (wides_2 l1 (by omega))) ?_
          walk_at "s"
          exact kk
        · refine ifT (by simp [xorB]; omega) ?_
          walk_at "s"
          exact kk
      obtain ⟨a, b, rfl⟩ := hx
      refine ifF (by simp [xorB]) ?_
      walk_at "s"
      have s1 : allI (dIs (widesK [Kd.word a, Kd.word b])) = some [(a : Int), b] := rfl
      refine dSum_l s1 ?_
      walk_at "s"
      by_cases q : a + b ≤ 8
      · rw [show kJoined [.word a, .word b] (dIs []) = some (.word (a + b)) by simp [kJoined, q]] at kk
        refine ifT (by simp; omega) ?_
        walk_at "s"
        refine dSum_l s1 ?_
        walk_at "s"
        simpa [optD, Kd.d, Kd.its] using kk
      · rw [show kJoined [.word a, .word b] (dIs []) = none by simp [kJoined, q]] at kk
        refine ifF (by simp; omega) ?_
        walk_at "s"
        exact kk
    · walk_at "s"
      refine dIN_tupS (ys := ["true", "false", "not", "and", "or"]) ?_
      walk_at "s"
      have kk := k st .refl
      rw [kind_rule (g := kLess) rfl] at kk
      by_cases hx : ∃ a b, ks = [Kd.word a, Kd.word b]
      case neg =>
        rw [show kLess ks (dIs []) = none by unfold kLess; rw [(two_none hx).2]; rfl] at kk
        by_cases l1 : ks.length = 2
        · refine ifF (by simp [xorB]; omega) ?_
          walk_at "s"
          refine ifT (by simp [xorB]; exact fun z => hx (wides_2 l1 (by omega))) ?_
          walk_at "s"
          exact kk
        · refine ifT (by simp [xorB]; omega) ?_
          walk_at "s"
          exact kk
      obtain ⟨a, b, rfl⟩ := hx
      refine ifF (by simp [xorB]) ?_
      walk_at "s"
      refine ixL0 ?_
      walk_at "s"
      refine ixL1 ?_
      walk_at "s"
      by_cases q : a = b
      case neg =>
        rw [show kLess [.word a, .word b] (dIs []) = none by simp [kLess, kWords, q]] at kk
        refine ifT (by simp [xorB]; omega) ?_
        walk_at "s"
        exact kk
      subst q
      refine ifF (by simp [xorB]) ?_
      walk_at "s"
      refine dIN_tupS (ys := ["less", "sless"]) ?_
      walk_at "s"
      rwa [show kLess [.word a, .word a] (dIs []) = some .truth by simp [kLess, kWords]] at kk
    · walk_at "s"
      refine dIN_tupS (ys := ["true", "false", "not", "and", "or"]) ?_
      walk_at "s"
      have kk := k st .refl
      rw [kind_rule (g := kLess) rfl] at kk
      by_cases hx : ∃ a b, ks = [Kd.word a, Kd.word b]
      case neg =>
        rw [show kLess ks (dIs []) = none by unfold kLess; rw [(two_none hx).2]; rfl] at kk
        by_cases l1 : ks.length = 2
        · refine ifF (by simp [xorB]; omega) ?_
          walk_at "s"
          refine ifT (by simp [xorB]; exact fun z => hx (wides_2 l1 (by omega))) ?_
          walk_at "s"
          exact kk
        · refine ifT (by simp [xorB]; omega) ?_
          walk_at "s"
          exact kk
      obtain ⟨a, b, rfl⟩ := hx
      refine ifF (by simp [xorB]) ?_
      walk_at "s"
      refine ixL0 ?_
      walk_at "s"
      refine ixL1 ?_
      walk_at "s"
      by_cases q : a = b
      case neg =>
        rw [show kLess [.word a, .word b] (dIs []) = none by simp [kLess, kWords, q]] at kk
        refine ifT (by simp [xorB]; omega) ?_
        walk_at "s"
        exact kk
      subst q
      refine ifF (by simp [xorB]) ?_
      walk_at "s"
      refine dIN_tupS (ys := ["less", "sless"]) ?_
      walk_at "s"
      rwa [show kLess [.word a, .word a] (dIs []) = some .truth by simp [kLess, kWords]] at kk
  · have ow := words_own w h
    refine dIN_tupS (ys := ["true", "false", "not", "and", "or"]) ?_
    refine ifF (by simp only [Bool.false_eq_true, if_false, List.any_cons, List.any_nil, Bool.or_false, Bool.or_eq_false_iff, decide_eq_false_iff_not]; exact ⟨fun z => ow "true" (by decide) z.symm, fun z => ow "false" (by decide) z.symm, fun z => ow "not" (by decide) z.symm, fun z => ow "and" (by decide) z.symm, fun z => ow "or" (by decide) z.symm⟩) ?_
    walk_at "s"
    refine ifF (by simpa using ow "same" (by decide)) ?_
    walk_at "s"
    refine ifF (by simpa using ow "choose" (by decide)) ?_
    walk_at "s"
    refine ifF (by simpa using ow "read" (by decide)) ?_
    walk_at "s"
    refine ifF (by simpa using ow "write" (by decide)) ?_
    walk_at "s"
    refine ifF (by simpa using ow "flip" (by decide)) ?_
    walk_at "s"
    have kk := k st .refl
    rw [kind_rule (words_rule h)] at kk
    by_cases hx : ∃ a b, ks = [Kd.word a, Kd.word b]
    case neg =>
      rw [(two_none hx).2] at kk
      by_cases l1 : ks.length = 2
      · refine ifF (by simp [xorB]; omega) ?_
        walk_at "s"
        refine ifT (by simp [xorB]; exact fun z => hx (wides_2 l1 (by omega))) ?_
        walk_at "s"
        exact kk
      · refine ifT (by simp [xorB]; omega) ?_
        walk_at "s"
        exact kk
    obtain ⟨a, b, rfl⟩ := hx
    refine ifF (by simp [xorB]) ?_
    walk_at "s"
    refine ifF (by simpa using ow "join" (by decide)) ?_
    walk_at "s"
    refine ixL0 ?_
    walk_at "s"
    refine ixL1 ?_
    walk_at "s"
    by_cases q : a = b
    case neg =>
      rw [show kWords [.word a, .word b] (dIs []) = none by simp [kWords, q]] at kk
      refine ifT (by simp [xorB]; omega) ?_
      walk_at "s"
      exact kk
    subst q
    refine ifF (by simp [xorB]) ?_
    walk_at "s"
    refine dIN_tupS (ys := ["less", "sless"]) ?_
    refine ifF (by simp only [Bool.false_eq_true, if_false, List.any_cons, List.any_nil, Bool.or_false, Bool.or_eq_false_iff, decide_eq_false_iff_not]; exact ⟨fun z => ow "less" (by decide) z.symm, fun z => ow "sless" (by decide) z.symm⟩) ?_
    walk_at "s"
    refine ixL0 ?_
    rwa [show kWords [.word a, .word a] (dIs []) = some (.word a) by simp [kWords]] at kk

def baseL : List Str := ["p", "q", "x", "xy", "m", "i", "d"]
def tailL : List Str := ["", "", "a", "orb", "notes", "abcdef"]
def lastC (p : Str) : Nat := p.cps.toList.getLastD 0
def mkN (like : Bool) (p t : Str) : Str := if like = true then ("abcdefg" : Str) ++ (⟨#[lastC p]⟩ : Str) else p ++ t
theorem base_last : ∀ p ∈ baseL, atI p.cps.toList (-1) = some (lastC p) := by decide +kernel
theorem base_len : ∀ p ∈ baseL, p.length ≤ 2 := by decide +kernel
theorem tail_len : ∀ p ∈ tailL, p.length ≤ 6 := by decide +kernel
theorem nm_all : ∀ like : Bool, ∀ p ∈ baseL, ∀ t ∈ tailL, isNm (mkN like p t) = true := by decide +kernel
theorem nm_ne : ∀ like : Bool, ∀ p ∈ baseL, ∀ q ∈ baseL, p ≠ q → ∀ t ∈ tailL, ∀ u ∈ tailL, mkN like p t ≠ mkN like q u := by decide +kernel
theorem nms_end {like : Bool} {ks : List Kd} {ys : List (Str × Kd)} (hl : ys.length = 7) (hk : ks.length = 7) (h : ∀ (i : Nat) (p : Str) (k : Kd) (y : Str × Kd), baseL[i]? = some p → ks[i]? = some k → ys[i]? = some y → y.2 = k ∧ ∃ t ∈ tailL, y.1 = mkN like p t) : NmsOk (ys.map (·.1)) ∧ ys.map (·.2) = ks := by
  match ys, hl with
  | [y0, y1, y2, y3, y4, y5, y6], _ =>
    match ks, hk with
    | [k0, k1, k2, k3, k4, k5, k6], _ =>
      obtain ⟨a0, t0, b0, e0⟩ := h 0 _ _ _ rfl rfl rfl
      obtain ⟨a1, t1, b1, e1⟩ := h 1 _ _ _ rfl rfl rfl
      obtain ⟨a2, t2, b2, e2⟩ := h 2 _ _ _ rfl rfl rfl
      obtain ⟨a3, t3, b3, e3⟩ := h 3 _ _ _ rfl rfl rfl
      obtain ⟨a4, t4, b4, e4⟩ := h 4 _ _ _ rfl rfl rfl
      obtain ⟨a5, t5, b5, e5⟩ := h 5 _ _ _ rfl rfl rfl
      obtain ⟨a6, t6, b6, e6⟩ := h 6 _ _ _ rfl rfl rfl
      refine ⟨⟨?_, ?_⟩, by simp [a0, a1, a2, a3, a4, a5, a6]⟩
      · intro x hx
        simp only [List.map_cons, List.map_nil, List.mem_cons, List.not_mem_nil, or_false] at hx
        rcases hx with rfl | rfl | rfl | rfl | rfl | rfl | rfl
        · rw [e0]; exact nm_all _ _ (by simp [baseL]) _ b0
        · rw [e1]; exact nm_all _ _ (by simp [baseL]) _ b1
        · rw [e2]; exact nm_all _ _ (by simp [baseL]) _ b2
        · rw [e3]; exact nm_all _ _ (by simp [baseL]) _ b3
        · rw [e4]; exact nm_all _ _ (by simp [baseL]) _ b4
        · rw [e5]; exact nm_all _ _ (by simp [baseL]) _ b5
        · rw [e6]; exact nm_all _ _ (by simp [baseL]) _ b6
      · have ne := nm_ne like
        simp only [List.map_cons, List.map_nil, List.nodup_cons, List.mem_cons, List.not_mem_nil, or_false, not_or, not_false_eq_true, List.nodup_nil, and_true, e0, e1, e2, e3, e4, e5, e6]
        refine ⟨⟨?_, ?_, ?_, ?_, ?_, ?_⟩, ⟨?_, ?_, ?_, ?_, ?_⟩, ⟨?_, ?_, ?_, ?_⟩, ⟨?_, ?_, ?_⟩, ⟨?_, ?_⟩, ?_⟩
        all_goals exact ne _ (by simp [baseL]) _ (by simp [baseL]) (by decide) _ (by assumption) _ (by assumption)
theorem sem_law_names (c : Cl) : ∀ ds st R xq, sp_law_names c ds st R xq → w_law_names c (EndsOf R xq) (startD ["_law_reel_here", "_law_wide", "_law_places", "_law_deep", "_law_some", "_law_found", "_law_like", "_law_name", "_law_kind_here", "_law_tail"] ds) st := by
  rintro ds st R xq ⟨b, n, rfl, spr, hn, k⟩
  show w_law_names c ⟨_, _, _, _, _⟩ [some (.hdl b), none, none, none, none, none, none, none, none, none] st
  unfold w_law_names
  walk_at "s"
  refine ⟨b, 8, n, rfl, spr, by omega, by omega, by omega, ?_⟩
  intro r1 st1 r10 r11 s1 l1
  walk_at "s"
  refine ⟨b, 6, n + 1, rfl, s1.spr, by omega, by omega, by omega, ?_⟩
  intro r2 st2 r20 r21 s2 l2
  obtain ⟨w, hw, w1, w8⟩ : ∃ w : Nat, atI [D.int 1, .int 2, .int 3, .int 4, .int 8, .int (1 + r1)] r2 = some (.int (w : Int)) ∧ 1 ≤ w ∧ w ≤ 8 := by
    have : r2 = 0 ∨ r2 = 1 ∨ r2 = 2 ∨ r2 = 3 ∨ r2 = 4 ∨ r2 = 5 := by omega
    rcases this with rfl | rfl | rfl | rfl | rfl | rfl
    · exact ⟨1, rfl, by decide, by decide⟩
    · exact ⟨2, rfl, by decide, by decide⟩
    · exact ⟨3, rfl, by decide, by decide⟩
    · exact ⟨4, rfl, by decide, by decide⟩
    · exact ⟨8, rfl, by decide, by decide⟩
    · exact ⟨(1 + r1).toNat, by rw [show ((1 + r1).toNat : Int) = 1 + r1 by omega]; rfl, by omega, by omega⟩
  refine dIx_l hw ?_
  walk_at "s"
  refine ⟨b, 3, n + 1 + 1, rfl, s2.spr, by omega, by omega, by omega, ?_⟩
  intro r3 st3 r30 r31 s3 l3
  obtain ⟨p, hp⟩ : ∃ p : Nat, (1 : Int) + r3 = (p : Int) := ⟨(1 + r3).toNat, by omega⟩
  walk_at "s"
  rw [hp]
  refine ⟨b, 8, n + 1 + 1 + 1, rfl, s3.spr, by omega, by omega, by omega, ?_⟩
  intro r4 st4 r40 r41 s4 l4
  walk_at "s"
  refine ⟨b, 2, n + 1 + 1 + 1 + 1, rfl, s4.spr, by omega, by omega, by omega, ?_⟩
  intro r5 st5 r50 r51 s5 l5
  obtain ⟨dp, hd, d1, d8⟩ : ∃ w' : Nat, atI [D.int (w : Int), .int (1 + r4)] r5 = some (.int (w' : Int)) ∧ 1 ≤ w' ∧ w' ≤ 8 := by
    have : r5 = 0 ∨ r5 = 1 := by omega
    rcases this with rfl | rfl
    · exact ⟨w, rfl, w1, w8⟩
    · exact ⟨(1 + r4).toNat, by rw [show ((1 + r4).toNat : Int) = 1 + r4 by omega]; rfl, by omega, by omega⟩
  refine dIx_l hd ?_
  walk_at "s"
  refine dAddA_l rfl rfl (by simp [sizeLine]) ?_
  walk_at "s"
  have sA : SX b st (n + 5) (st5 ++ [Cell.lst []]) := (s1.trans (s2.trans (s3.trans (s4.trans s5)))).app
  refine ⟨b, 4, n + 5, rfl, sA.spr, by omega, by omega, by omega, ?_⟩
  intro r6 st6 r60 r61 s6 l6
  walk_at "s"
  have hbl := s5.spr.lt
  have h6 : st6[st5.length]? = some (.lst ([] : List D)) := s6.cell appN (by omega)
  have sB := sA.trans s6
  have hst := sA.len
  have hlen : st.length ≤ st5.length := by omega
  generalize st5.length = h at h6 hbl hlen
  generalize xorB false (decide (r6 = 0)) = like
  refine forD_ind (fun zs ρ st' => ∃ (dn lf : List (Str × Kd)) (ys : List (Str × Kd)) (a7 a8 a9 : Option D), baseL.zip [Kd.truth, .truth, .word w, .word w, .arr p dp, .word p, .word dp] = dn ++ lf ∧ zs = lf.map nkP ∧ st'[h]? = some (.lst (ys.map nkP)) ∧ SX b st (n + 6 + dn.length) st' ∧ ys.length = dn.length ∧ (∀ (i : Nat) (q y : Str × Kd), dn[i]? = some q → ys[i]? = some y → y.2 = q.2 ∧ ∃ t ∈ tailL, y.1 = mkN like q.1 t) ∧ ρ = [some (.hdl b), some (.int w), some (.int p), some (.int dp), some (.lst ((baseL.zip [Kd.truth, .truth, .word w, .word w, .arr p dp, .word p, .word dp]).map nkP)), some (.hdl h), some (.bl like), a7, a8, a9]) ?_ ?_ _ _ _ ⟨[], _, [], none, none, none, rfl, rfl, h6, sB, rfl, by simp, rfl⟩
  case refine_2 =>
    rintro z zs ρ st' K ⟨dn, lf, ys, a7, a8, a9, b1, b2, b3, b4, b5, b6, rfl⟩ hK
    cases lf with
    | nil => cases b2
    | cons q lf =>
    cases b2
    obtain ⟨nm, kd⟩ := q
    have hl7 := congrArg List.length b1
    have hl7' : (baseL.zip [Kd.truth, .truth, .word w, .word w, .arr p dp, .word p, .word dp]).length = 7 := rfl
    rw [hl7'] at hl7
    simp at hl7
    have hnm : nm ∈ baseL := by
      have : (nm, kd) ∈ baseL.zip [Kd.truth, .truth, .word w, .word w, .arr p dp, .word p, .word dp] := by rw [b1]; simp
      exact (List.of_mem_zip this).1
    refine ⟨trivial, ?_⟩
    walk_at "s"
    refine ⟨rfl, ?_⟩
    walk_at "s"
    refine ⟨b, 6, _, rfl, b4.spr, by omega, by omega, by omega, ?_⟩
    intro r7 st7 r70 r71 s7 l7
    obtain ⟨t, ht, htm⟩ : ∃ t : Str, atI (tailL.map D.str) r7 = some (.str t) ∧ t ∈ tailL := by
      have : r7 = 0 ∨ r7 = 1 ∨ r7 = 2 ∨ r7 = 3 ∨ r7 = 4 ∨ r7 = 5 := by omega
      rcases this with rfl | rfl | rfl | rfl | rfl | rfl
      all_goals exact ⟨_, rfl, by simp [tailL]⟩
    refine dIx_l ht ?_
    walk_at "s"
    have b3' := s7.cell b3 (by omega)
    refine ⟨isLD_h b3', ?_⟩
    walk_at "s"
    have out : ∀ nn : Str, nn = mkN like nm t → K [some (.hdl b), some (.int w), some (.int p), some (.int dp), some (.lst ((baseL.zip [Kd.truth, .truth, .word w, .word w, .arr p dp, .word p, .word dp]).map nkP)), some (.hdl h), some (.bl like), some (.str nm), some kd.d, some (.str t)] (st7.set h (.lst (ys.map nkP ++ [nkP (nn, kd)]))) := by
      intro nn hnn
      refine hK _ _ ⟨dn ++ [(nm, kd)], lf, ys ++ [(nn, kd)], _, _, _, by rw [b1]; simp, rfl, ?_, ?_, by simp [b5], ?_, rfl⟩
      · rw [setSame b3']; simp
      · have := (b4.trans s7).own (c := .lst (ys.map nkP ++ [nkP (nn, kd)])) hlen (by have := spr.lt; omega)
        exact this.mono (by simp; omega)
      · intro i q y e1 e2
        by_cases hi : i < dn.length
        · rw [List.getElem?_append_left hi] at e1
          rw [List.getElem?_append_left (by omega)] at e2
          exact b6 i q y e1 e2
        · have := ltOf e1
          simp at this
          have : i = dn.length := by omega
          subst this
          simp at e1; subst e1
          rw [← b5] at e2
          simp at e2; subst e2
          exact ⟨rfl, t, htm, hnn⟩
    cases hlk : like with
    | true =>
      subst hlk
      walk_at "s"
      refine ⟨by have := base_len nm hnm; simp only [sizeLine]; omega, lastC nm, base_last nm hnm, ?_⟩
      refine dAddA_s (by show 7 + 1 ≤ sizeLine; decide) ?_
      walk_at "s"
      refine dApp_h b3' (by simp [sizeLine]; omega) ?_
      walk_at "s"
      exact out _ rfl
    | false =>
      subst hlk
      walk_at "s"
      refine dAddA_s (by have := base_len nm hnm; have := tail_len t htm; simp only [sizeLine]; omega) ?_
      walk_at "s"
      refine dApp_h b3' (by simp [sizeLine]; omega) ?_
      walk_at "s"
      exact out _ rfl
  rintro ρ st' ⟨dn, lf, ys, a7, a8, a9, b1, b2, b3, b4, b5, b6, rfl⟩
  refine ⟨trivial, ?_⟩
  cases lf with
  | cons v lf => cases b2
  | nil =>
  rw [List.append_nil] at b1
  subst b1
  walk_at "s"
  obtain ⟨c1, c2⟩ := nms_end (like := like) (ks := [Kd.truth, .truth, .word w, .word w, .arr p dp, .word p, .word dp]) (ys := ys) b5 rfl (by
    intro i q kk y e1 e2 e3
    exact b6 i (q, kk) y (by rw [List.getElem?_zip_eq_some]; exact ⟨e1, e2⟩) e3)
  have hks : ∀ kd ∈ ys.map (·.2), kd.ok := by
    rw [c2]
    intro kd hk
    simp only [List.mem_cons, List.not_mem_nil, or_false] at hk
    rcases hk with rfl | rfl | rfl | rfl | rfl | rfl | rfl <;> simp only [Kd.ok] <;> omega
  refine k ys h st' b5 c1 (fun q hq => hks _ (List.mem_map_of_mem hq)) (by rw [c2]; exact ⟨⟨w, by simp⟩, ⟨p, dp, by simp⟩⟩) (b4.mono ?_) hlen b3
  have : (baseL.zip [Kd.truth, .truth, .word w, .word w, .arr p dp, .word p, .word dp]).length = 7 := rfl
  omega

theorem sem_law_begun (c : Cl) : ∀ ds st R xq, sp_law_begun c ds st R xq → w_law_begun c (EndsOf R xq) (startD ["_law_reel_here", "_law_some", "_law_named", "_law_name", "_law_kind_here"] ds) st := by
  rintro ds st R xq ⟨b, n, rfl, spr, hn, k⟩
  show w_law_begun c ⟨_, _, _, _, _⟩ [some (.hdl b), none, none, none, none] st
  unfold w_law_begun
  walk_at "s"
  refine ⟨b, n, rfl, spr, hn, ?_⟩
  intro xs h st1 hl nm hk hs s1 hh h1
  walk_at "s"
  refine dIt_h h1 ?_
  refine lcD_ind (fun ys acc st' => st' = st1 ∧ ∃ dn lf : List (Str × Kd), xs = dn ++ lf ∧ ys = lf.map nkP ∧ acc = dn.map fun p => (nmT p).1.d) ?_ ?_ _ _ _ ⟨rfl, [], xs, rfl, rfl, rfl⟩
  case refine_2 =>
    rintro y ys acc st' K ⟨rfl, dn, lf, a1, a2, rfl⟩ hK
    cases lf with
    | nil => cases a2
    | cons v lf =>
    cases a2
    have hlen := congrArg List.length a1
    simp at hlen
    refine ⟨h1, ?_⟩
    walk_at "s"
    exact ⟨by simp only [List.length_map, sizeLine]; omega, hK _ _ ⟨rfl, dn ++ [v], lf, by rw [a1]; simp, rfl, by simp [nmT, Nd.d, Nd.its, nkP]⟩⟩
  rintro acc st' ⟨rfl, dn, lf, a1, a2, rfl⟩
  refine ⟨h1, ?_⟩
  cases lf with
  | cons v lf => cases a2
  | nil =>
  rw [List.append_nil] at a1
  subst a1
  walk_at "s"
  have h2 : (st' ++ [Cell.lst (xs.map fun p => (nmT p).1.d)])[h]? = some (.lst (xs.map nkP)) := appL h1
  refine dIt_h h2 ?_
  have hm2 : ∀ {st2 : Sto}, st2 = st' ++ [Cell.lst (xs.map fun p => (nmT p).1.d)] → st2[h]? = some (.lst (xs.map nkP)) := fun e => by rw [e]; exact h2
  refine lcD_ind (fun ys acc st2 => st2 = st' ++ [Cell.lst (xs.map fun p => (nmT p).1.d)] ∧ ∃ dn lf : List (Str × Kd), xs = dn ++ lf ∧ ys = lf.map nkP ∧ acc = dn.map fun p => (nmT p).2.d) ?_ ?_ _ _ _ ⟨rfl, [], xs, rfl, rfl, rfl⟩
  case refine_2 =>
    rintro y ys acc st2 K ⟨e2, dn, lf, a1, a2, rfl⟩ hK
    cases lf with
    | nil => cases a2
    | cons v lf =>
    cases a2
    have hlen := congrArg List.length a1
    simp at hlen
    refine ⟨hm2 e2, ?_⟩
    walk_at "s"
    refine ⟨rfl, ?_⟩
    walk_at "s"
    exact ⟨by simp only [List.length_map, sizeLine]; omega, hK _ _ ⟨e2, dn ++ [v], lf, by rw [a1]; simp, rfl, by simp [nmT]⟩⟩
  rintro acc st2 ⟨e2, dn, lf, a1, a2, rfl⟩
  refine ⟨hm2 e2, ?_⟩
  cases lf with
  | cons v lf => cases a2
  | nil =>
  rw [List.append_nil] at a1
  subst a1
  subst e2
  walk_at "s"
  have sl := s1.len
  refine k xs _ _ _ _ hl nm hk hs (s1.app.app.app) ?_ ?_ ?_ ⟨appN, ?_, ?_, ?_⟩
  · simp; omega
  · exact sl
  · simp; omega
  · rw [List.map_map]; exact appL (appL appN)
  · rw [List.map_map]; exact appL appN
  · simp

theorem dEQ_ln {n : Bool} {st : Sto} {R : DQ} {l : List Nat} (h : R (.bl (xorB n l.isEmpty)) st) : dEQ n (.lst (dNs l)) (.lst []) st R := by
  have e : dNs l = dIs (l.map fun n : Nat => (n : Int)) := by simp [dNs, dIs]
  rw [e]
  refine dEQ_li (ys := []) ?_
  cases l with
  | nil => exact h
  | cons a l => exact h
theorem kindAt_get {ts : Ts} {j : Nat} (h : j < ts.length) : (ts.map fun t => t.2.d)[j]? = some (kindAt ts j).d := by
  simp [kindAt, h]
theorem sem_law_pick (c : Cl) : ∀ ds st R xq, sp_law_pick c ds st R xq → w_law_pick c (EndsOf R xq) (startD ["_law_reel_here", "_law_model", "_law_kind_here", "_law_some", "_law_term"] ds) st := by
  rintro ds st R xq ⟨b, n, hm, a, k, ts, kd, rfl, spr, hn, md, hl, hk⟩
  show w_law_pick c ⟨_, _, _, _, _⟩ [some (.hdl b), some (.hdl hm), some kd.d, none, none] st
  unfold w_law_pick
  walk_at "s"
  refine dIx_h md.top at1 ?_
  walk_at "s"
  refine dLen_h md.sorts ?_
  walk_at "s"
  rw [List.length_map]
  refine ⟨by omega, by omega, ?_⟩
  rw [Int.toNat_natCast]
  refine lcD_ind (fun ys acc st' => st' = st ∧ ∃ (j lf : Nat) (l : List Nat), ys = rngD (j : Int) lf ∧ j + lf = ts.length ∧ acc = dNs l ∧ l.length ≤ j ∧ ∀ i ∈ l, i < ts.length ∧ kindAt ts i = kd) ?_ ?_ _ _ _ ⟨rfl, 0, ts.length, [], rfl, by simp, rfl, Nat.le_refl _, by simp⟩
  case refine_2 =>
    rintro y ys acc st' K ⟨rfl, j, lf, l, a1, a2, rfl, a3, a4⟩ hK
    cases lf with
    | zero => cases a1
    | succ lf =>
    rw [rngD_cons] at a1
    cases a1
    refine ⟨trivial, ?_⟩
    walk_at "s"
    refine dIx_h md.top at1 ?_
    walk_at "s"
    refine dIx_h md.sorts (atI_nat (kindAt_get (by omega))) ?_
    walk_at "s"
    refine dEQ_kd ?_
    by_cases q : kindAt ts j = kd
    · refine ifT (by simp [xorB, q]) ?_
      walk_at "s"
      refine ⟨by simp only [List.length_map, sizeLine]; omega, hK _ _ ⟨rfl, j + 1, lf, l ++ [j], by simp, by omega, by simp [dNs], by simp; omega, ?_⟩⟩
      intro i hi
      rcases List.mem_append.mp hi with hi | hi
      · exact a4 i hi
      · simp at hi
        subst hi
        exact ⟨by omega, q⟩
    · refine ifF (by simp [xorB, q]) ?_
      exact hK _ _ ⟨rfl, j + 1, lf, l, by simp, by omega, rfl, by omega, a4⟩
  rintro acc st' ⟨rfl, j, lf, l, a1, a2, rfl, a3, a4⟩
  refine ⟨trivial, ?_⟩
  walk_at "s"
  refine dEQ_ln ?_
  cases l with
  | nil =>
    walk_at "s"
    exact hk none st' (by simp) ((SX.refl spr).mono (by omega))
  | cons x l =>
    walk_at "s"
    have hll : (dNs (x :: l)).length = (x :: l).length := by simp
    rw [hll]
    simp only [List.length_cons] at a3 ⊢
    refine ⟨b, _, n, rfl, spr, by omega, by omega, by omega, ?_⟩
    intro r st2 r0 r1 s _
    have hi : r.toNat < (x :: l).length := by simp; omega
    refine dIx_l (atI_natG r0 (d := .int ((x :: l)[r.toNat] : Nat)) (by rw [List.getElem?_map, List.getElem?_eq_getElem hi]; rfl)) ?_
    exact hk (some (x :: l)[r.toNat]) st2 (by
      intro i e
      cases e
      exact a4 _ (List.getElem_mem hi)) s
theorem sem_law_marks (c : Cl) : ∀ ds st R xq, sp_law_marks c ds st R xq → w_law_marks c (EndsOf R xq) (startD ["_law_reel_here", "_law_word", "_law_kinds", "_law_wide", "_law_high"] ds) st := by
  rintro ds st R xq ⟨b, n, w, ks, rfl, spr, hn, hcut, k⟩
  show w_law_marks c ⟨_, _, _, _, _⟩ [some (.hdl b), some (.str w), some (.lst (ks.map Kd.d)), none, none] st
  unfold w_law_marks
  walk_at "s"
  by_cases e1 : w = "number"
  · subst e1
    walk_at "s"
    refine ⟨b, 8, n, rfl, spr, by omega, by omega, by omega, ?_⟩
    intro r1 st1 r10 r11 s1 l1
    walk_at "s"
    refine ⟨b, 2, n + 1, rfl, s1.spr, by omega, by omega, by omega, ?_⟩
    intro r2 st2 r20 r21 s2 l2
    obtain ⟨wd, hw, w1, w8⟩ : ∃ w : Nat, atI [D.int (1 + r1), .int 2] r2 = some (.int (w : Int)) ∧ 1 ≤ w ∧ w ≤ 8 := by
      have : r2 = 0 ∨ r2 = 1 := by omega
      rcases this with rfl | rfl
      · exact ⟨(1 + r1).toNat, by rw [show ((1 + r1).toNat : Int) = 1 + r1 by omega]; rfl, by omega, by omega⟩
      · exact ⟨2, rfl, by decide, by decide⟩
    refine dIx_l hw ?_
    walk_at "s"
    refine dII_i (cpw (by omega)) ?_
    rw [Int.toNat_natCast, Int.one_mul]
    walk_at "s"
    have hp := pow_pos2 wd
    have h8 := pow_le w8
    refine ⟨b, 2 ^ wd, _, rfl, s2.spr, hp, by omega, by omega, ?_⟩
    intro r3 st3 r30 r31 s3 l3
    walk_at "s"
    refine k [(wd : Int), r3] st3 (by simp) (fun _ => ⟨.word wd, ?_, w1, w8⟩) ((s1.trans (s2.trans s3)).mono (by omega))
    rw [kind_rule (g := kMarks) rfl]
    show (if isW (.int (wd : Int)) 1 8 = true ∧ isW (.int r3) 0 (2 ^ ((wd : Int)).toNat - 1) = true then some (Kd.word ((wd : Int)).toNat) else none) = _
    rw [if_pos]
    · simp
    · rw [isW_int, isW_int]; simp; omega
  refine ifF (by simpa using e1) ?_
  walk_at "s"
  by_cases e2 : w = "cut"
  · obtain ⟨m, m1, m8, rfl⟩ := hcut e2
    refine ifT (by simpa using e2) ?_
    walk_at "s"
    refine ixL0 ?_
    walk_at "s"
    refine ixT1 ?_
    walk_at "s"
    refine ⟨b, m, n, rfl, spr, by omega, by omega, by omega, ?_⟩
    intro r1 st1 r10 r11 s1 l1
    walk_at "s"
    refine ⟨b, r1 + 1, n + 1, rfl, s1.spr, by omega, by omega, by omega, ?_⟩
    intro r2 st2 r20 r21 s2 l2
    walk_at "s"
    exact k [r1, r2] st2 (by simp) (fun h => absurd h e1) ((s1.trans s2).mono (by omega))
  · refine ifF (by simpa using e2) ?_
    walk_at "s"
    exact k [] st (by simp) (fun h => absurd h e1) ((SX.refl spr).mono (by omega))

theorem filt_ok {tag : Str} {inv : Sto → Prop} {ρ : DEnv} {ks : List Kd} {R : List D → Sto → Prop} {st : Sto} (hρ : ρ.length = 11) (hi : inv st) (hl : ks.length ≤ 100000) (h : R ((ks.filter fun k => decide (k.tag = tag)).map Kd.d) st) :
    lcD inv (.nm 10) (mTest (mOp (dEQ false) (mOp dIx (mVar 10) (mC (.int 0))) (mC (.str tag)))) (mVar 10) ρ R (ks.map Kd.d) [] st := by
  obtain ⟨p0, p1, p2, p3, p4, p5, p6, p7, p8, p9, p10, rfl⟩ : ∃ p0 p1 p2 p3 p4 p5 p6 p7 p8 p9 p10, ρ = [p0, p1, p2, p3, p4, p5, p6, p7, p8, p9, p10] := by
    match ρ, hρ with
    | [p0, p1, p2, p3, p4, p5, p6, p7, p8, p9, p10], _ => exact ⟨p0, p1, p2, p3, p4, p5, p6, p7, p8, p9, p10, rfl⟩
  refine lcD_ind (fun ys acc st' => st' = st ∧ ∃ dn lf : List Kd, ks = dn ++ lf ∧ ys = lf.map Kd.d ∧ acc = (dn.filter fun k => decide (k.tag = tag)).map Kd.d) ?_ ?_ _ _ _ ⟨rfl, [], ks, rfl, rfl, rfl⟩
  case refine_2 =>
    rintro y ys acc st' K ⟨rfl, dn, lf, a1, a2, rfl⟩ hK
    cases lf with
    | nil => cases a2
    | cons v lf =>
    cases a2
    have hlen := congrArg List.length a1
    simp at hlen
    have hf := List.length_filter_le (fun k : Kd => decide (k.tag = tag)) dn
    refine ⟨hi, ?_⟩
    walk_at "s"
    refine ixK0 ?_
    walk_at "s"
    by_cases q : v.tag = tag
    · refine ifT (by simpa [xorB] using q) ?_
      walk_at "s"
      exact ⟨by simp only [List.length_map, sizeLine]; omega, hK _ _ ⟨rfl, dn ++ [v], lf, by rw [a1]; simp, rfl, by simp [q]⟩⟩
    · refine ifF (by simpa [xorB] using q) ?_
      exact hK _ _ ⟨rfl, dn ++ [v], lf, by rw [a1]; simp, rfl, by simp [q]⟩
  rintro acc st' ⟨rfl, dn, lf, a1, a2, rfl⟩
  refine ⟨hi, ?_⟩
  cases lf with
  | cons v lf => cases a2
  | nil =>
  rw [List.append_nil] at a1
  subst a1
  exact h
theorem word_of {ks : List Kd} {k : Kd} (h : k ∈ ks.filter fun k => decide (k.tag = ("word" : Str))) : k ∈ ks ∧ ∃ n, k = .word n := by
  rw [List.mem_filter] at h
  refine ⟨h.1, ?_⟩
  have h2 := h.2
  cases k with
  | truth => exact absurd h2 (show ¬decide (("truth" : Str) = "word") = true by decide)
  | word n => exact ⟨n, rfl⟩
  | arr p n => exact absurd h2 (show ¬decide (("array" : Str) = "word") = true by decide)
theorem arr_of {ks : List Kd} {k : Kd} (h : k ∈ ks.filter fun k => decide (k.tag = ("array" : Str))) : k ∈ ks ∧ ∃ p n, k = .arr p n := by
  rw [List.mem_filter] at h
  refine ⟨h.1, ?_⟩
  have h2 := h.2
  cases k with
  | truth => exact absurd h2 (show ¬decide (("truth" : Str) = "array") = true by decide)
  | word n => exact absurd h2 (show ¬decide (("word" : Str) = "array") = true by decide)
  | arr p n => exact ⟨p, n, rfl⟩
theorem kds_ix {st : Sto} {R : DQ} {l : List Kd} {r : Int} (h0 : 0 ≤ r) (h1 : r < l.length) (h : ∀ k ∈ l, R k.d st) : dIx (.lst (l.map Kd.d)) (.int r) st R := by
  have hi : r.toNat < l.length := by omega
  exact dIx_l (atI_natG h0 (d := l[r.toNat].d) (by rw [List.getElem?_map, List.getElem?_eq_getElem hi]; rfl)) (h _ (List.getElem_mem hi))
theorem cut_n {xs : List D} {j : Nat} (h : j ≤ xs.length) : cutD xs none (some (j : Int)) = xs.take j := by
  unfold cutD
  rw [HT.sIx_none, HT.sIx_nat, Nat.min_eq_left h]
  simp
theorem cutD_nil0 {xs : List D} : cutD xs none (some 0) = [] := cut_n (j := 0) (by omega)
theorem cutD_one1 {x : D} : cutD [x] none (some 1) = [x] := cut_n (j := 1) (by simp)
theorem sem_law_needs (c : Cl) : ∀ ds st R xq, sp_law_needs c ds st R xq → w_law_needs c (EndsOf R xq) (startD ["_law_reel_here", "_law_model", "_law_word", "_law_truth", "_law_kinds", "_law_any_kind", "_law_wides", "_law_arrays", "_law_wide", "_law_array", "_law_kind_here"] ds) st := by
  rintro ds st R xq ⟨b, n, hm, a, k, ts, w, rfl, spr, hn, md, hl, n1, n2, n3, hok, hk, kk⟩
  show w_law_needs c ⟨_, _, _, _, _⟩ [some (.hdl b), some (.hdl hm), some (.str w), none, none, none, none, none, none, none, none] st
  unfold w_law_needs
  obtain ⟨ks, hks⟩ : ∃ ks : List Kd, ks = ts.map (·.2) := ⟨_, rfl⟩
  have hks2 : (ts.map fun t => t.2.d) = ks.map Kd.d := by rw [hks, List.map_map]; rfl
  have hkl : ks.length = ts.length := by rw [hks]; simp
  have hko : ∀ kd ∈ ks, kd.ok := by
    intro kd hkd
    rw [hks] at hkd
    obtain ⟨i, hi, e⟩ := List.getElem_of_mem hkd
    have := hok i (by simpa using hi)
    simp at hi
    simp at e
    simpa [kindAt, hi, e] using this
  rw [← hks] at hk
  have m1 := md.sorts
  rw [hks2] at m1
  have w0 : 1 ≤ (ks.filter fun k => decide (k.tag = ("word" : Str))).length := by
    obtain ⟨⟨q, hq⟩, _⟩ := hk
    exact List.length_pos_of_mem (a := Kd.word q) (by rw [List.mem_filter]; exact ⟨hq, decide_eq_true rfl⟩)
  have a0 : 1 ≤ (ks.filter fun k => decide (k.tag = ("array" : Str))).length := by
    obtain ⟨_, p, q, hq⟩ := hk
    exact List.length_pos_of_mem (a := Kd.arr p q) (by rw [List.mem_filter]; exact ⟨hq, decide_eq_true rfl⟩)
  have k0 : 1 ≤ ks.length := Nat.le_trans w0 (List.length_filter_le _ _)
  have wl := List.length_filter_le (fun k : Kd => decide (k.tag = ("word" : Str))) ks
  have al := List.length_filter_le (fun k : Kd => decide (k.tag = ("array" : Str))) ks
  walk_at "s"
  refine dIx_h md.top at1 ?_
  walk_at "s"
  refine dLen_h m1 ?_
  rw [List.length_map]
  refine ⟨b, _, n, rfl, spr, by omega, by omega, by omega, ?_⟩
  intro r1 st1 r10 r11 s1 l1
  have m2 := s1.cell m1 n3.symm
  have hi1 : r1.toNat < ks.length := by omega
  refine dIx_h m2 (atI_natG r10 (d := ks[r1.toNat].d) (by rw [List.getElem?_map, List.getElem?_eq_getElem hi1]; rfl)) ?_
  have hany := hko _ (List.getElem_mem hi1)
  generalize ks[r1.toNat] = ka at hany
  walk_at "s"
  refine dIt_h m2 ?_
  refine filt_ok rfl m2 (by omega) ?_
  walk_at "s"
  refine dIt_h m2 ?_
  refine filt_ok rfl m2 (by omega) ?_
  have hW : ∀ k ∈ ks.filter (fun k => decide (k.tag = ("word" : Str))), k ∈ ks ∧ ∃ n, k = .word n := fun k => word_of
  have hA : ∀ k ∈ ks.filter (fun k => decide (k.tag = ("array" : Str))), k ∈ ks ∧ ∃ p n, k = .arr p n := fun k => arr_of
  generalize (ks.filter fun k => decide (k.tag = ("word" : Str))) = W at w0 wl hW
  generalize (ks.filter fun k => decide (k.tag = ("array" : Str))) = A at a0 al hA
  walk_at "s"
  rw [List.length_map]
  refine ⟨b, _, n + 1, rfl, s1.spr, by omega, by omega, by omega, ?_⟩
  intro r2 st2 r20 r21 s2 l2
  refine kds_ix r20 r21 ?_
  intro kw hkw
  obtain ⟨kwo, m, rfl⟩ := hW kw hkw
  have kwok := hko _ kwo
  walk_at "s"
  rw [List.length_map]
  refine ⟨b, _, n + 1 + 1, rfl, s2.spr, by omega, by omega, by omega, ?_⟩
  intro r3 st3 r30 r31 s3 l3
  refine kds_ix r30 r31 ?_
  intro ka2 hka2
  obtain ⟨kao, p, q, rfl⟩ := hA ka2 hka2
  have kaok := hko _ kao
  have s := s1.trans (s2.trans s3)
  have s10 := s.mono (show n + 1 + 1 + 1 ≤ n + 10 by omega)
  have fin : ∀ ls : List Kd, (∀ kd ∈ ls, kd.ok) → ls.length ≤ 3 → (w = "cut" → ∃ m, ls = [.word m]) → R (.lst (ls.map Kd.d)) st3 := fun ls h1 h2 h3 => kk ls st3 h1 h2 h3 s10
  walk_at "s"
  refine dIN_tupS (ys := ["true", "false", "number"]) ?_
  by_cases t1 : (["true", "false", "number"] : List Str).any (fun y => decide (y = w)) = true
  · refine ifT (by simpa using t1) ?_
    walk_at "s"
    exact fin [] (by simp) (by simp) (fun h => by subst h; exact absurd t1 (by decide))
  refine ifF (by simpa using t1) ?_
  walk_at "s"
  refine dIN_tupS (ys := ["not", "and", "or"]) ?_
  by_cases t2 : (["not", "and", "or"] : List Str).any (fun y => decide (y = w)) = true
  · refine ifT (by simpa using t2) ?_
    walk_at "s"
    have wc : w = "cut" → ∃ m, ([.truth] : List Kd) = [.word m] := fun h => by subst h; exact absurd t2 (by decide)
    have wc2 : w = "cut" → ∃ m, ([.truth, .truth] : List Kd) = [.word m] := fun h => by subst h; exact absurd t2 (by decide)
    by_cases e : w = "not"
    · subst e
      walk_at "s"
      refine dMulA_l (by decide) (by decide) (by simp [xorB, sizeLine]) ?_
      exact fin [.truth] (by simp [Kd.ok]) (by simp) wc
    · refine dMulA_l (by simp [xorB, e]) (by simp [xorB, e]) (by simp [xorB, e, sizeLine]) ?_
      have : (1 + (if xorB true (decide (w = "not")) = true then (1 : Int) else 0)) = 2 := by simp [xorB, e]
      rw [this]
      exact fin [.truth, .truth] (by simp [Kd.ok]) (by simp) wc2
  refine ifF (by simpa using t2) ?_
  walk_at "s"
  by_cases t3 : w = "same"
  · subst t3
    walk_at "s"
    rw [show (if xorB false (decide (("same" : Str) = "choose")) = true then (1 : Int) else 0) = 0 by decide, cutD_nil0]
    refine dAddA_l rfl rfl (by simp [sizeLine]) ?_
    exact fin [ka, ka] (by simp [hany]) (by simp) (fun h => absurd h (by decide))
  refine ifF (by simpa using t3) ?_
  walk_at "s"
  by_cases t4 : w = "choose"
  · subst t4
    walk_at "s"
    rw [show (if xorB false (decide (("choose" : Str) = "choose")) = true then (1 : Int) else 0) = 1 by decide, cutD_one1]
    refine dAddA_l rfl rfl (by simp [sizeLine]) ?_
    exact fin [.truth, ka, ka] (by intro kd h; simp at h; rcases h with rfl | rfl; exact trivial; exact hany) (by simp) (fun h => absurd h (by decide))
  refine ifF (by simpa using t4) ?_
  walk_at "s"
  by_cases t5 : w = "flip"
  · subst t5
    walk_at "s"
    exact fin [.word m] (by intro kd h; simp at h; subst h; exact kwok) (by simp) (fun _ => ⟨m, rfl⟩)
  refine ifF (by simpa using t5) ?_
  walk_at "s"
  by_cases t6 : w = "cut"
  · subst t6
    walk_at "s"
    exact fin [.word m] (by intro kd h; simp at h; subst h; exact kwok) (by simp) (fun _ => ⟨m, rfl⟩)
  refine ifF (by simpa using t6) ?_
  walk_at "s"
  by_cases t7 : w = "join"
  · refine ifT (by simpa using t7) ?_
    walk_at "s"
    rw [List.length_map]
    refine ⟨b, _, _, rfl, s.spr, by omega, by omega, by omega, ?_⟩
    intro r4 st4 r40 r41 s4 l4
    refine kds_ix r40 r41 ?_
    intro kv hkv
    have kvok := hko _ (hW kv hkv).1
    walk_at "s"
    refine kk [.word m, kv] st4 ?_ (by simp) (fun h => absurd h t6) ((s.trans s4).mono (by omega))
    intro kd h
    simp at h
    rcases h with rfl | rfl
    · exact kwok
    · exact kvok
  refine ifF (by simpa using t7) ?_
  walk_at "s"
  have hp : (Kd.word p).ok := ⟨kaok.1, by have := kaok.2.1; omega⟩
  have hq : (Kd.word q).ok := kaok.2.2
  by_cases t8 : w = "read"
  · subst t8
    walk_at "s"
    refine ixT1 ?_
    walk_at "s"
    refine ixT2 ?_
    walk_at "s"
    refine dSlA_l ?_
    rw [show cutD [(Kd.arr p q).d, .tup [.str "word", .int (p : Int)], .tup [.str "word", .int (q : Int)]] none (some (2 + (if xorB false (decide (("read" : Str) = "write")) = true then 1 else 0))) = [(Kd.arr p q).d, (Kd.word p).d] from cut_n (j := 2) (by simp)]
    exact fin [.arr p q, .word p] (by intro kd h; simp at h; rcases h with rfl | rfl; exact kaok; exact hp) (by simp) (fun h => absurd h t6)
  refine ifF (by simpa using t8) ?_
  walk_at "s"
  by_cases t9 : w = "write"
  · subst t9
    walk_at "s"
    refine ixT1 ?_
    walk_at "s"
    refine ixT2 ?_
    walk_at "s"
    refine dSlA_l ?_
    rw [show cutD [(Kd.arr p q).d, .tup [.str "word", .int (p : Int)], .tup [.str "word", .int (q : Int)]] none (some (2 + (if xorB false (decide (("write" : Str) = "write")) = true then 1 else 0))) = [(Kd.arr p q).d, (Kd.word p).d, (Kd.word q).d] from cut_n (j := 3) (by simp)]
    exact fin [.arr p q, .word p, .word q] (by intro kd h; simp at h; rcases h with rfl | rfl | rfl; exact kaok; exact hp; exact hq) (by simp) (fun h => absurd h t6)
  refine ifF (by simpa using t9) ?_
  walk_at "s"
  exact fin [.word m, .word m] (by intro kd h; simp at h; subst h; exact kwok) (by simp) (fun h => absurd h t6)

theorem optN_flat : ∀ os : List (Option Nat), (os.map optN).all flatD = true
  | [] => rfl
  | none :: os => by simp only [List.map_cons, List.all_cons, optN_flat os]; rfl
  | some i :: os => by simp only [List.map_cons, List.all_cons, optN_flat os]; rfl
theorem optN_any : ∀ os : List (Option Nat), ((os.map optN).any fun y => eqFD y .non) = os.any Option.isNone
  | [] => rfl
  | none :: os => by simp only [List.map_cons, List.any_cons, optN_any os]; rfl
  | some i :: os => by simp only [List.map_cons, List.any_cons, optN_any os]; rfl
theorem optN_some {os : List (Option Nat)} (h : os.any Option.isNone = false) : ∃ ps : List Nat, os = ps.map some := by
  induction os with
  | nil => exact ⟨[], rfl⟩
  | cons o os ih =>
    simp only [List.any_cons, Bool.or_eq_false_iff] at h
    obtain ⟨ps, rfl⟩ := ih h.2
    cases o with
    | none => exact absurd h.1 (by simp)
    | some i => exact ⟨i :: ps, rfl⟩
theorem SX.nofx {b n : Nat} {x y z : Sto} (h : SX b x n y) (f : Fx [] y z) : SX b x n z := ⟨h.fx.trans f (by simp), h.spr.fx f (by simp)⟩
theorem sem_law_good (c : Cl) : ∀ ds st R xq, sp_law_good c ds st R xq → w_law_good c (EndsOf R xq) (startD ["_law_reel_here", "_law_model", "_law_word", "_law_needs_here", "_law_parts", "_law_tags", "_law_kind_here"] ds) st := by
  rintro ds st R xq ⟨b, n, hm, a, k, ts, rfl, spr, hn, md, hl, n1, n2, n3, hok, hk, kk⟩
  show w_law_good c ⟨_, _, _, _, _⟩ [some (.hdl b), some (.hdl hm), none, none, none, none, none] st
  unfold w_law_good
  walk_at "s"
  refine ⟨rfl, ?_⟩
  walk_at "s"
  refine ⟨b, 26, n, rfl, spr, by omega, by omega, by omega, ?_⟩
  intro r1 st1 r10 r11 s1 l1
  have hwl : wordL.length = 26 := rfl
  have hi1 : r1.toNat < wordL.length := by omega
  refine dIx_l (atI_natG r10 (d := .str wordL[r1.toNat]) (by rw [List.getElem?_map, List.getElem?_eq_getElem hi1]; rfl)) ?_
  have hw : wordL[r1.toNat] ∈ wordL := List.getElem_mem hi1
  generalize wordL[r1.toNat] = w at hw
  have mdk : ∀ {n' : Nat} {st' : Sto}, SX b st n' st' → MdAt hm a k ts st' := fun s => md.fx s.fx (by simp; omega) (by simp; omega) (by simp; omega)
  walk_at "s"
  refine ⟨b, n + 1, hm, a, k, ts, w, rfl, s1.spr, by omega, mdk s1, hl, n1, n2, n3, hok, hk, ?_⟩
  intro ks st2 ko kl kc s2
  have s12 := s1.trans s2
  walk_at "s"
  refine lcD_ind (fun ys acc st' => ∃ (dn lf : List Kd) (os : List (Option Nat)), ks = dn ++ lf ∧ ys = lf.map Kd.d ∧ acc = os.map optN ∧ os.length = dn.length ∧ (∀ ps : List Nat, os = ps.map some → (∀ p ∈ ps, p < ts.length) ∧ ps.map (kindAt ts) = dn) ∧ SX b st (n + 1 + 10 + dn.length) st') ?_ ?_ _ _ _ ⟨[], ks, [], rfl, rfl, rfl, rfl, ?_, s12⟩
  case refine_3 =>
    intro ps e
    cases ps with
    | nil => simp
    | cons p ps => cases e
  case refine_2 =>
    rintro y ys acc st' K ⟨dn, lf, os, a1, a2, rfl, a3, a4, s'⟩ hK
    cases lf with
    | nil => cases a2
    | cons v lf =>
    cases a2
    have hlen := congrArg List.length a1
    simp at hlen
    refine ⟨trivial, ?_⟩
    walk_at "s"
    refine ⟨b, _, hm, a, k, ts, v, rfl, s'.spr, by omega, mdk s', hl, ?_⟩
    intro o st3 ho s3
    refine ⟨by simp only [List.length_map, sizeLine]; omega, hK _ _ ⟨dn ++ [v], lf, os ++ [o], by rw [a1]; simp, rfl, by simp, by simp [a3], ?_, (s'.trans s3).mono (by simp; omega)⟩⟩
    intro ps e
    have hne : ps ≠ [] := by intro z; rw [z] at e; simp at e
    obtain ⟨ps', p, rfl⟩ : ∃ ps' p, ps = ps' ++ [p] := ⟨ps.dropLast, ps.getLast hne, (List.dropLast_concat_getLast hne).symm⟩
    rw [List.map_append] at e
    have e2 := List.append_inj' e rfl
    obtain ⟨c1, c2⟩ := a4 ps' e2.1
    have e3 : o = some p := by simpa using e2.2
    obtain ⟨d1, d2⟩ := ho p e3
    refine ⟨?_, by simp [c2, d2]⟩
    intro q hq
    rcases List.mem_append.mp hq with hq | hq
    · exact c1 q hq
    · simp at hq
      subst hq
      exact d1
  rintro acc st3 ⟨dn, lf, os, a1, a2, rfl, a3, a4, s3⟩
  refine ⟨trivial, ?_⟩
  cases lf with
  | cons v lf => cases a2
  | nil =>
  rw [List.append_nil] at a1
  subst a1
  clear a2
  walk_at "s"
  have hcut : w = "cut" → ∃ m, 1 ≤ m ∧ m ≤ 8 ∧ ks = [.word m] := by
    intro e
    obtain ⟨m, hm'⟩ := kc e
    have := ko (.word m) (by rw [hm']; simp)
    exact ⟨m, this.1, this.2, hm'⟩
  refine ⟨b, _, w, ks, rfl, s3.spr, by omega, hcut, ?_⟩
  intro ms st4 ml mk s4
  have s34 := s3.trans s4
  walk_at "s"
  refine ⟨rfl, optN_flat os, ?_⟩
  rw [optN_any]
  walk_at "s"
  cases hno : os.any Option.isNone with
  | true =>
    walk_at "s"
    refine ⟨b, _, "number", [], rfl, s34.spr, by omega, fun h => absurd h (by decide), ?_⟩
    intro ms' st9 ml' mk' s9
    obtain ⟨kd, e1, e2⟩ := mk' rfl
    walk_at "s"
    exact kk "number" [] ms' kd st9 ⟨by decide, by simp, e1, e2, by simp, ml'⟩ ((s34.trans s9).mono (by omega))
  | false =>
    walk_at "s"
    refine ⟨w, ks, ms, rfl, hw, ko, by omega, by omega, ?_⟩
    intro st5 f5
    have s5 := s34.nofx f5
    walk_at "s"
    rw [optD_non]
    cases hkd : kindOf w ks (dIs ms) with
    | none =>
      walk_at "s"
      refine ⟨b, _, "number", [], rfl, s5.spr, by omega, fun h => absurd h (by decide), ?_⟩
      intro ms' st9 ml' mk' s9
      obtain ⟨kd, e1, e2⟩ := mk' rfl
      walk_at "s"
      exact kk "number" [] ms' kd st9 ⟨by decide, by simp, e1, e2, by simp, ml'⟩ ((s5.trans s9).mono (by omega))
    | some kd =>
      walk_at "s"
      obtain ⟨ps, hps⟩ := optN_some hno
      obtain ⟨c1, c2⟩ := a4 ps hps
      subst hps
      rw [show (ps.map some).map optN = dNs ps by rw [List.map_map]; rfl]
      refine dTuple_l ?_
      walk_at "s"
      refine kk w ps ms kd st5 ⟨hw, c1, by rw [c2]; exact hkd, kindOf_ok hkd ko, by simp at a3; omega, ml⟩ (s5.mono (by omega))

/-! ### terms as data -/
def Nd.pys : Nd → List PyData
  | .nm x k => [.str "name", .tuple [], .tuple [.str x, k.py]]
  | .ap w ps ms => [.str w, .tuple (ps.map fun (n : Nat) => PyData.int (n : Int)), .tuple (ms.map PyData.int)]
def Nd.py (n : Nd) : PyData := .tuple n.pys
theorem nats_pys : ∀ ps : List Nat, pyDs (dNs ps) = some (ps.map fun (n : Nat) => PyData.int (n : Int))
  | [] => rfl
  | p :: ps => by
    have ih := nats_pys ps
    simp only [dNs, List.map_cons, pyDs, pyD] at ih ⊢
    rw [ih]
theorem ints_pys : ∀ ps : List Int, pyDs (dIs ps) = some (ps.map PyData.int)
  | [] => rfl
  | p :: ps => by
    have ih := ints_pys ps
    simp only [dIs, List.map_cons, pyDs, pyD] at ih ⊢
    rw [ih]
theorem nd_py (n : Nd) : pyD n.d = some n.py := by
  cases n with
  | nm x k => cases k <;> rfl
  | ap w ps ms => simp only [Nd.d, Nd.its, pyD, pyDs, nats_pys, ints_pys, Option.map_some]; rfl
theorem nds_py : ∀ ts : Ts, pyDs (ts.map fun t => t.1.d) = some (ts.map fun t => t.1.py)
  | [] => rfl
  | t :: ts => by simp only [List.map_cons, pyDs, nd_py, nds_py ts]
theorem nats_as (ps : List Nat) : (ps.map fun (n : Nat) => PyData.int (n : Int)) = (ps.map fun n : Nat => (n : Int)).map PyData.int := by rw [List.map_map]; rfl
theorem word_str : ∀ w ∈ wordL, PyData.strOk w = true := by decide +kernel
theorem nd_lay {n : Nd} (h : ndTxt n) : n.py.canLay0 = true := by
  cases n with
  | nm x k =>
    have := nm_strOk h
    have e : PyData.strOk ("name" : Str) = true := by decide +kernel
    simp only [Nd.py, Nd.pys, PyData.canLay0, PyData.canLayAll0, kd_lay, this, e, Bool.and_self]
  | ap w ps ms =>
    have := word_str w h
    simp only [Nd.py, Nd.pys, PyData.canLay0, PyData.canLayAll0, nats_as, ints_lay, this, Bool.and_self]
theorem nd_pdep (n : Nd) : n.py.depth ≤ 3 := by
  cases n with
  | nm x k => simp only [Nd.py, Nd.pys, PyData.depth, PyData.depthAll, kd_dep]; omega
  | ap w ps ms => simp only [Nd.py, Nd.pys, PyData.depth, PyData.depthAll, nats_as, ints_dep]; omega
theorem nd_shaped {n : Nd} (h : ndTxt n) : SeqAt.shaped n.py = true := by
  have := nd_pdep n
  unfold SeqAt.shaped
  rw [nd_lay h, decide_eq_true (show n.py.depth ≤ 64 by omega)]; rfl
theorem nds_lay : ∀ {ts : Ts}, (∀ t ∈ ts, ndTxt t.1) → PyData.canLayAll0 (ts.map fun t => t.1.py) = true
  | [], _ => rfl
  | t :: ts, h => by
    have h2 : ∀ t' ∈ ts, ndTxt t'.1 := fun t' ht => h t' (List.mem_cons_of_mem _ ht)
    simp only [List.map_cons, PyData.canLayAll0, nd_lay (h t (by simp)), nds_lay h2, Bool.and_self]
theorem nds_dep : ∀ ts : Ts, PyData.depthAll (ts.map fun t => t.1.py) ≤ 3
  | [] => by simp [PyData.depthAll]
  | t :: ts => by
    simp only [List.map_cons, PyData.depthAll]
    have := nds_dep ts
    have := nd_pdep t.1
    omega
theorem nds_shaped {ts : Ts} (h : ∀ t ∈ ts, ndTxt t.1) : SeqAt.shaped (.list (ts.map fun t => t.1.py)) = true := by
  unfold SeqAt.shaped
  have h1 : PyData.canLay0 (.list (ts.map fun t => t.1.py)) = true := by simp only [PyData.canLay0]; exact nds_lay h
  have h2 : PyData.depth (.list (ts.map fun t => t.1.py)) ≤ 64 := by
    simp only [PyData.depth]
    have := nds_dep ts
    omega
  rw [h1, decide_eq_true h2]; rfl
theorem nat_int_eq (a b : List Nat) : (a.map (fun n : Nat => (n : Int)) = b.map fun n : Nat => (n : Int)) = (a = b) := by
  apply propext
  refine ⟨fun h => ?_, fun h => by rw [h]⟩
  induction a generalizing b with
  | nil => cases b with | nil => rfl | cons => cases h
  | cons x a ih =>
    cases b with
    | nil => cases h
    | cons y b =>
      simp only [List.map_cons, List.cons.injEq] at h
      rw [ih b h.2, show x = y by omega]
theorem nd_eqv (a b : Nd) : PyData.eqv a.py b.py = decide (a = b) := by
  cases a with
  | nm x k =>
    cases b with
    | nm y l =>
      simp only [Nd.py, Nd.pys, PyData.eqv, PyData.eqvAll, kd_eqv, Bool.and_true]
      by_cases e : x = y <;> by_cases e2 : k = l <;> simp [e, e2]
    | ap w ps ms =>
      have : PyData.eqvAll [.str x, k.py] (ms.map PyData.int) = false := by cases ms <;> simp [PyData.eqvAll, PyData.eqv]
      simp only [Nd.py, Nd.pys, PyData.eqv, PyData.eqvAll, this]
      simp
  | ap w ps ms =>
    cases b with
    | nm y l =>
      have : PyData.eqvAll (ms.map PyData.int) [.str y, l.py] = false := by cases ms <;> simp [PyData.eqvAll, PyData.eqv]
      simp only [Nd.py, Nd.pys, PyData.eqv, PyData.eqvAll, this]
      simp
    | ap w' ps' ms' =>
      simp only [Nd.py, Nd.pys, PyData.eqv, PyData.eqvAll, nats_as, ints_eqv, nat_int_eq, Bool.and_true]
      by_cases e : w = w' <;> by_cases e2 : ps = ps' <;> by_cases e3 : ms = ms' <;> simp [e, e2, e3]
theorem nds_any (n : Nd) : ∀ ts : Ts, ((ts.map fun t => t.1.py).any fun z => PyData.eqv z n.py) = (nIx n ts).isSome
  | [] => rfl
  | t :: ts => by
    simp only [List.map_cons, List.any_cons, nd_eqv, nds_any n ts, nIx]
    by_cases e : t.1 = n
    · simp [e]
    · simp [e]
theorem nIx_first {n : Nd} : ∀ {ts : Ts} {i : Nat}, nIx n ts = some i → ∀ (m : Nat) (t : Nd × Kd), m < i → ts[m]? = some t → t.1 ≠ n
  | [], _, h, _, _, _, _ => by cases h
  | t :: ts, i, h, m, t', hm, e => by
    simp only [nIx] at h
    by_cases q : t.1 = n
    · rw [if_pos q] at h
      cases h
      omega
    · rw [if_neg q] at h
      cases i with
      | zero => omega
      | succ i =>
        cases m with
        | zero => simp at e; subst e; exact q
        | succ m =>
          cases q2 : nIx n ts with
          | none => rw [q2] at h; cases h
          | some j =>
            rw [q2] at h
            simp at h
            subst h
            exact nIx_first q2 m t' (by omega) (by simpa using e)
theorem dIND_nd {neg : Bool} {st : Sto} {R : DQ} {j : Nat} {n : Nd} {ts : Ts} (e : st[j]? = some (.lst (ts.map fun t => t.1.d))) (hn : ndTxt n) (hts : ∀ t ∈ ts, ndTxt t.1) (h : R (.bl (xorB neg (nIx n ts).isSome)) st) : dIND neg n.d (.hdl j) st R := by
  refine ⟨1, n.py, ts.map fun t => t.1.py, ?_, ?_, nd_shaped hn, nds_shaped hts, ?_⟩
  · cases n with
    | nm x k => simp only [Nd.d, res, dr, List.map_id']; exact nd_py (.nm x k)
    | ap w ps ms => simp only [Nd.d, res, dr, List.map_id']; exact nd_py (.ap w ps ms)
  · simp only [res, dr, e, List.map_id', pyD, nds_py, Option.map_some]
  · rw [nds_any]; exact h
theorem dIdxD_nd {st : Sto} {R : DQ} {j i : Nat} {n : Nd} {ts : Ts} (e : st[j]? = some (.lst (ts.map fun t => t.1.d))) (hn : ndTxt n) (hts : ∀ t ∈ ts, ndTxt t.1) (q : nIx n ts = some i) (h : R (.int (i : Nat)) st) : dIdxD (.hdl j) [n.d] st R := by
  refine ⟨1, n.py, ts.map fun t => t.1.py, i, n.py, ?_, ?_, nds_shaped hts, nd_shaped hn, ?_, ?_, ?_, h⟩
  · simp only [res, dr, e, List.map_id', pyD, nds_py, Option.map_some]
  · cases n with
    | nm x k => simp only [Nd.d, res, dr, List.map_id']; exact nd_py (.nm x k)
    | ap w ps ms => simp only [Nd.d, res, dr, List.map_id']; exact nd_py (.ap w ps ms)
  · have := nIx_some q
    unfold ndAt at this
    rw [List.getElem?_map]
    cases q2 : ts[i]? with
    | none => rw [q2] at this; cases this
    | some t =>
      rw [q2] at this
      simp at this
      subst this
      rfl
  · rw [nd_eqv]; simp
  · intro m z hm hz
    rw [List.getElem?_map] at hz
    cases q2 : ts[m]? with
    | none => rw [q2] at hz; cases hz
    | some t =>
      rw [q2] at hz
      simp at hz
      subst hz
      rw [nd_eqv]
      exact decide_eq_false (nIx_first q m t hm q2)

theorem sem_law_taken (c : Cl) : ∀ ds st R xq, sp_law_taken c ds st R xq → w_law_taken c (EndsOf R xq) (startD ["_law_model", "_law_node", "_law_part"] ds) st := by
  rintro ds st R xq ⟨hm, a, k, ts, w, ps, ms, kd, rfl, md, hl, hok, htx, ⟨hw, g1, g2, g3, g4, g5⟩, kk⟩
  show w_law_taken c ⟨_, _, _, _, _⟩ [some (.hdl hm), some (Nd.ap w ps ms).d, none] st
  unfold w_law_taken
  have hwt : ndTxt (.ap w ps ms) := hw
  obtain ⟨d1, d2, d3⟩ := md.nd
  walk_at "s"
  refine dIx_h md.top at0 ?_
  refine dIND_nd md.made hwt htx ?_
  cases q : nIx (Nd.ap w ps ms) ts with
  | some i =>
    walk_at "s"
    refine dIx_h md.top at0 ?_
    walk_at "s"
    refine ⟨isLD_h md.made, ?_⟩
    walk_at "s"
    refine dIdxD_nd md.made hwt htx q ?_
    exact kk i ts st (bput_some q) md .refl
  | none =>
    walk_at "s"
    refine dIx_h md.top at0 ?_
    walk_at "s"
    refine ⟨isLD_h md.made, ?_⟩
    walk_at "s"
    refine dApp_h md.made (by simp only [List.length_map, sizeLine]; omega) ?_
    have top1 : (st.set a (.lst ((ts.map fun t => t.1.d) ++ [(Nd.ap w ps ms).d])))[hm]? = some (.lst [.hdl a, .hdl k]) := by rw [List.getElem?_set_ne (Ne.symm d1)]; exact md.top
    have srt1 : (st.set a (.lst ((ts.map fun t => t.1.d) ++ [(Nd.ap w ps ms).d])))[k]? = some (.lst (ts.map fun t => t.2.d)) := by rw [List.getElem?_set_ne d3]; exact md.sorts
    have mad1 : (st.set a (.lst ((ts.map fun t => t.1.d) ++ [(Nd.ap w ps ms).d])))[a]? = some (.lst ((ts.map fun t => t.1.d) ++ [(Nd.ap w ps ms).d])) := setSame md.made
    have f1 : Fx [a, k] st (st.set a (.lst ((ts.map fun t => t.1.d) ++ [(Nd.ap w ps ms).d]))) := Fx.refl.set (.inl (by simp))
    generalize (st.set a (.lst ((ts.map fun t => t.1.d) ++ [(Nd.ap w ps ms).d]))) = st1 at top1 srt1 mad1 f1
    walk_at "s"
    refine dIx_h top1 at1 ?_
    walk_at "s"
    refine ⟨isLD_h srt1, ?_⟩
    walk_at "s"
    refine ixT0 ?_
    walk_at "s"
    refine ixT1 ?_
    walk_at "s"
    refine lcD_ind (fun ys acc st' => st' = st1 ∧ ∃ dn lf : List Nat, ps = dn ++ lf ∧ ys = dNs lf ∧ acc = (dn.map (kindAt ts)).map Kd.d) ?_ ?_ _ _ _ ⟨rfl, [], ps, rfl, rfl, rfl⟩
    case refine_2 =>
      rintro y ys acc st' K ⟨e0, dn, lf, a1, a2, rfl⟩ hK
      cases lf with
      | nil => cases a2
      | cons v lf =>
      cases a2
      have hlen := congrArg List.length a1
      simp at hlen
      have top2 : st'[hm]? = some (.lst [.hdl a, .hdl k]) := by rw [e0]; exact top1
      have srt2 : st'[k]? = some (.lst (ts.map fun t => t.2.d)) := by rw [e0]; exact srt1
      refine ⟨trivial, ?_⟩
      walk_at "s"
      refine dIx_h top2 at1 ?_
      walk_at "s"
      refine dIx_h srt2 (atI_nat (kindAt_get (g1 v (by rw [a1]; simp)))) ?_
      exact ⟨by simp only [List.length_map, sizeLine]; omega, hK _ _ ⟨e0, dn ++ [v], lf, by rw [a1]; simp, rfl, by simp⟩⟩
    rintro acc st' ⟨rfl, dn, lf, a1, a2, rfl⟩
    refine ⟨trivial, ?_⟩
    cases lf with
    | cons v lf => cases a2
    | nil =>
    rw [List.append_nil] at a1
    subst a1
    clear a2
    walk_at "s"
    refine ixT2 ?_
    walk_at "s"
    refine ⟨w, ps.map (kindAt ts), ms, rfl, hw, ?_, by simp; omega, by omega, ?_⟩
    · intro kd' hk
      rw [List.mem_map] at hk
      obtain ⟨p, hp, rfl⟩ := hk
      exact hok p (g1 p hp)
    intro st2 f2
    rw [g2]
    have top2 := f2.at top1 (by simp)
    have srt2 := f2.at srt1 (by simp)
    have mad2 := f2.at mad1 (by simp)
    have f12 : Fx [a, k] st st2 := f1.trans f2 (by simp)
    walk_at "s"
    show dApp (.hdl k) [kd.d] st2 _
    refine dApp_h srt2 (by simp only [List.length_map, sizeLine]; omega) ?_
    have top3 : (st2.set k (.lst ((ts.map fun t => t.2.d) ++ [kd.d])))[hm]? = some (.lst [.hdl a, .hdl k]) := by rw [List.getElem?_set_ne (Ne.symm d2)]; exact top2
    have mad3 : (st2.set k (.lst ((ts.map fun t => t.2.d) ++ [kd.d])))[a]? = some (.lst ((ts.map fun t => t.1.d) ++ [(Nd.ap w ps ms).d])) := by rw [List.getElem?_set_ne (Ne.symm d3)]; exact mad2
    have srt3 : (st2.set k (.lst ((ts.map fun t => t.2.d) ++ [kd.d])))[k]? = some (.lst ((ts.map fun t => t.2.d) ++ [kd.d])) := setSame srt2
    have f3 : Fx [a, k] st (st2.set k (.lst ((ts.map fun t => t.2.d) ++ [kd.d]))) := f12.set (.inl (by simp))
    generalize (st2.set k (.lst ((ts.map fun t => t.2.d) ++ [kd.d]))) = st3 at top3 mad3 srt3 f3
    have e1 : ((ts.map fun t => t.1.d) ++ [(Nd.ap w ps ms).d]) = (ts ++ [(Nd.ap w ps ms, kd)]).map fun t => t.1.d := by simp
    have e2 : ((ts.map fun t => t.2.d) ++ [kd.d]) = (ts ++ [(Nd.ap w ps ms, kd)]).map fun t => t.2.d := by simp
    rw [e1] at mad3
    rw [e2] at srt3
    walk_at "s"
    refine dIx_h top3 at0 ?_
    walk_at "s"
    refine ⟨isLD_h mad3, ?_⟩
    walk_at "s"
    refine dIdxD_nd mad3 hwt ?_ (nIx_app q) ?_
    · intro t ht
      rcases List.mem_append.mp ht with ht | ht
      · exact htx t ht
      · simp at ht
        subst ht
        exact hwt
    exact kk ts.length _ st3 (bput_none q) ⟨top3, mad3, srt3, d1, d2, d3⟩ f3

theorem sem_Bank_DlenD (c : Cl) : ∀ ds st R xq, spBank_DlenD c ds st R xq → wBank_DlenD c (EndsOf R xq) (startD ["self"] ds) st := by
  rintro ds st R xq ⟨B, ts, rfl, h, hl, k⟩
  show wBank_DlenD c ⟨_, _, _, _, _⟩ [some (.hdl B.b)] st
  unfold wBank_DlenD
  walk_at "s"
  refine h.f0 ?_
  refine dLen_h h.made ?_
  rw [List.length_map]
  exact k
theorem Pl.up : ∀ {n : Nat} {d : D}, Pl n d → Pl (n + 1) d
  | 0, _, h => .inl h
  | n + 1, _, h => by
    rcases h with h | ⟨ds, e, hl, h⟩
    · exact .inl h
    · exact .inr ⟨ds, e, hl, fun x hx => Pl.up (h x hx)⟩
theorem pl_ints {ms : List Int} (h : ms.length ≤ 200000) : Pl 1 (.tup (dIs ms)) := .inr ⟨dIs ms, .inl rfl, by simpa using h, by
  intro x hx
  rw [List.mem_map] at hx
  obtain ⟨i, _, rfl⟩ := hx
  trivial⟩
theorem pl_nats {ms : List Nat} (h : ms.length ≤ 200000) : Pl 1 (.tup (dNs ms)) := .inr ⟨dNs ms, .inl rfl, by simpa using h, by
  intro x hx
  rw [List.mem_map] at hx
  obtain ⟨i, _, rfl⟩ := hx
  trivial⟩
theorem pl_kd (k : Kd) : Pl 1 k.d := by
  cases k <;> refine .inr ⟨_, .inl rfl, by simp [Kd.its], ?_⟩ <;> intro x hx <;> simp [Kd.its] at hx
  · subst hx; trivial
  · rcases hx with rfl | rfl <;> trivial
  · rcases hx with rfl | rfl | rfl <;> trivial
/-- of few parts, marks -/
def ndSm : Nd → Prop | .nm _ _ => True | .ap _ ps ms => ps.length ≤ 1000 ∧ ms.length ≤ 1000
theorem pl_nd {n : Nd} (h : ndSm n) : Pl 3 n.d := by
  cases n with
  | nm x k =>
    refine .inr ⟨_, .inl rfl, by simp [Nd.its], ?_⟩
    intro y hy
    simp only [Nd.its, List.mem_cons, List.not_mem_nil, or_false] at hy
    rcases hy with rfl | rfl | rfl
    · exact .inl trivial
    · exact (pl_ints (ms := []) (by simp)).up
    · refine .inr ⟨_, .inl rfl, by simp, ?_⟩
      intro z hz
      simp only [List.mem_cons, List.not_mem_nil, or_false] at hz
      rcases hz with rfl | rfl
      · exact .inl trivial
      · exact pl_kd k
  | ap w ps ms =>
    refine .inr ⟨_, .inl rfl, by simp [Nd.its], ?_⟩
    intro y hy
    simp only [Nd.its, List.mem_cons, List.not_mem_nil, or_false] at hy
    rcases hy with rfl | rfl | rfl
    · exact .inl trivial
    · exact (pl_nats (by have := h.1; omega)).up
    · exact (pl_ints (by have := h.2; omega)).up
theorem kindOf_len {w : Str} {ks : List Kd} {ms : List D} {k : Kd} (h : kindOf w ks ms = some k) : ks.length ≤ 3 ∧ ms.length ≤ 2 := by
  have nl : ms.isEmpty = true → ms.length ≤ 2 := fun e => by rw [List.isEmpty_iff] at e; subst e; simp
  have words : ∀ {ks : List Kd} {k : Kd}, kWords ks ms = some k → ks.length ≤ 3 ∧ ms.length ≤ 2 := by
    intro ks k e
    unfold kWords at e
    split at e
    · split at e
      · rename_i q; exact ⟨by simp, nl q.2⟩
      · cases e
    · cases e
  have key : ∀ p ∈ wordRules, ∀ k, p.2 ks ms = some k → ks.length ≤ 3 ∧ ms.length ≤ 2 := by
    intro p hp k e
    simp only [wordRules, List.mem_cons, List.not_mem_nil, or_false] at hp
    have c1 : p.2 = kNothing ∨ p.2 = kMarks ∨ p.2 = kTruth ∨ p.2 = kTruths ∨ p.2 = kAlike ∨ p.2 = kLess ∨ p.2 = kChoice ∨ p.2 = kWord ∨ p.2 = kWords ∨ p.2 = kJoined ∨ p.2 = kCut ∨ p.2 = kRead ∨ p.2 = kWritten := by
      rcases hp with h | h | h | h | h | h | h | h | h | h | h | h | h | h | h | h | h | h | h | h | h | h | h | h | h | h <;> subst h <;> simp
    rcases c1 with h | h | h | h | h | h | h | h | h | h | h | h | h <;> rw [h] at e
    · unfold kNothing at e; split at e
      · rename_i q; exact ⟨by rw [q.1]; simp, nl q.2⟩
      · cases e
    · unfold kMarks at e
      split at e
      · exact ⟨by simp, by simp⟩
      · cases e
    · unfold kTruth at e; split at e
      · rename_i q; exact ⟨by rw [q.1]; simp, nl q.2⟩
      · cases e
    · unfold kTruths at e; split at e
      · rename_i q; exact ⟨by rw [q.1]; simp, nl q.2⟩
      · cases e
    · unfold kAlike at e
      split at e
      · split at e
        · rename_i q; exact ⟨by simp, nl q.2⟩
        · cases e
      · cases e
    · unfold kLess at e
      rw [Option.map_eq_some_iff] at e
      obtain ⟨_, e, rfl⟩ := e
      exact words e
    · unfold kChoice at e
      split at e
      · split at e
        · rename_i q; exact ⟨by simp, nl q.2⟩
        · cases e
      · cases e
    · unfold kWord at e
      split at e
      · split at e
        · rename_i q; exact ⟨by simp, nl q⟩
        · cases e
      · cases e
    · exact words e
    · unfold kJoined at e
      split at e
      · split at e
        · rename_i q; exact ⟨by simp, nl q.1⟩
        · cases e
      · cases e
    · unfold kCut at e
      split at e
      · exact ⟨by simp, by simp⟩
      · cases e
    · unfold kRead at e
      split at e
      · split at e
        · rename_i q; exact ⟨by simp, nl q.1⟩
        · cases e
      · cases e
    · unfold kWritten at e
      split at e
      · split at e
        · rename_i q; exact ⟨by simp, nl q.1⟩
        · cases e
      · cases e
  unfold kindOf at h
  rw [Option.bind_eq_some_iff] at h
  obtain ⟨g, e1, e2⟩ := h
  unfold ruleOf at e1
  have hm : ∀ {l : List (Str × (List Kd → List D → Option Kd))}, l.lookup w = some g → (w, g) ∈ l := by
    intro l
    induction l with
    | nil => intro e; simp at e
    | cons p l ih =>
      intro e
      simp only [List.lookup] at e
      split at e
      · rename_i q
        cases e
        have : w = p.1 := by simpa using q
        subst this; simp
      · exact List.mem_cons_of_mem _ (ih e)
  exact key _ (hm e1) k e2
theorem BankOk.sm {ts : Ts} (h : BankOk ts) {i : Nat} {t : Nd × Kd} (e : ts[i]? = some t) : ndSm t.1 := by
  have := h.ok i t e
  obtain ⟨n, kd⟩ := t
  cases n with
  | nm x k => trivial
  | ap w ps ms =>
    have := kindOf_len this.2.1
    simp at this
    exact ⟨by omega, by omega⟩
theorem rule_name {w : Str} (h : (ruleOf w).isSome = true) : w ≠ "name" := by
  intro e
  subst e
  exact absurd h (by decide +kernel)
theorem kind_word {w : Str} {ks : List Kd} {ms : List D} {kd : Kd} (h : kindOf w ks ms = some kd) : (ruleOf w).isSome = true := by
  unfold kindOf at h
  cases q : ruleOf w with
  | none => rw [q] at h; cases h
  | some g => rfl
theorem nmP_app : ∀ as bs : Ts, nmPairs (as ++ bs) = nmPairs as ++ nmPairs bs
  | [], _ => rfl
  | (.nm x k, _) :: as, bs => by simp [nmPairs, nmP_app as bs]
  | (.ap _ _ _, _) :: as, bs => by simp [nmPairs, nmP_app as bs]
theorem nmP_len : ∀ as : Ts, (nmPairs as).length ≤ as.length
  | [] => Nat.le_refl _
  | (.nm x k, _) :: as => by simp [nmPairs, nmP_len as]
  | (.ap _ _ _, _) :: as => Nat.le_succ_of_le (nmP_len as)
theorem nmP_pl : ∀ {ts : Ts} {p : Str × D}, p ∈ nmPairs ts → Pl 2 (pairD p)
  | (.nm x k, _) :: as, p, h => by
    simp only [nmPairs, List.mem_cons] at h
    rcases h with rfl | h
    · refine .inr ⟨_, .inl rfl, by simp, ?_⟩
      intro z hz
      simp only [List.mem_cons, List.not_mem_nil, or_false] at hz
      rcases hz with rfl | rfl
      · exact .inl trivial
      · exact pl_kd k
    · exact nmP_pl h
  | (.ap _ _ _, _) :: as, p, h => nmP_pl (ts := as) h
theorem alike4 (c : Cl) {d : D} {st : Sto} {R : DQ} {xq : XQ} (h : Pl 4 d) (k : R (.bl true) st) : sp_law_alikeR4 c [d, d] st R xq := ⟨d, rfl, h, k⟩
theorem zip_ts (ts : Ts) : zipD (ts.map fun t => t.1.d) (ts.map fun t => t.2.d) = ts.map fun t => D.tup [t.1.d, t.2.d] := by
  unfold zipD
  induction ts with
  | nil => rfl
  | cons t ts ih => simpa using ih
theorem bank0 : BankOk [] := ⟨by simp, by simp, by simp, by intro i j x k k' h; simp [ndAt] at h⟩
theorem nIx_nm {x : Str} {k : Kd} : ∀ {dn : List (Str × Kd)}, x ∉ dn.map (·.1) → nIx (.nm x k) (dn.map nmT) = none
  | [], _ => rfl
  | (y, l) :: dn, h => by
    simp only [List.map_cons, List.mem_cons, not_or] at h
    have : ¬ (nmT (y, l)).1 = .nm x k := by
      intro e
      simp only [nmT] at e
      cases e
      exact h.1 rfl
    simp only [List.map_cons, nIx]
    rw [if_neg this, nIx_nm h.2]
    rfl
theorem ndAt_nm {x : Str} {k' : Kd} {dn : List (Str × Kd)} {i : Nat} (h : ndAt (dn.map nmT) i = some (.nm x k')) : x ∈ dn.map (·.1) := by
  unfold ndAt at h
  rw [List.getElem?_map] at h
  cases q : dn[i]? with
  | none => rw [q] at h; cases h
  | some p =>
    rw [q] at h
    simp only [Option.map_some, nmT] at h
    cases h
    exact List.mem_map_of_mem (List.mem_of_getElem? q)
theorem sem_law_banked (c : Cl) : ∀ ds st R xq, sp_law_banked c ds st R xq → w_law_banked c (EndsOf R xq) (startD ["_law_model", "_law_bank", "_law_word", "_law_parts", "_law_tags"] ds) st := by
  rintro ds st R xq ⟨hm, a, k, xs, rfl, md, nm, hk, hl, kk⟩
  show w_law_banked c ⟨_, _, _, _, _⟩ [some (.hdl hm), none, none, none, none] st
  unfold w_law_banked
  walk_at "s"
  refine ⟨st.length, rfl, appN, ?_⟩
  intro st4 f4 hb4 l4
  refine ⟨rfl, ?_⟩
  obtain ⟨B, hB⟩ : ∃ B : BH, B = ⟨st.length, (st ++ [Cell.ins c.Bank []]).length, (st ++ [Cell.ins c.Bank []]).length + 1, (st ++ [Cell.ins c.Bank []]).length + 2, (st ++ [Cell.ins c.Bank []]).length + 3⟩ := ⟨_, rfl⟩
  rw [← hB] at hb4
  have hBb : B.b = st.length := by rw [hB]
  rw [← hBb]
  have hfp : ∀ k ∈ B.fp, st.length < k := by
    intro k hk
    rw [hB] at hk
    simp [BH.fp] at hk
    omega
  have g4 : Fx [] st st4 := (Fx.refl.app (c := Cell.ins c.Bank [])).far f4 (by intro k hk; simp at hk; omega)
  have md4 := md.fx g4 (by simp) (by simp) (by simp)
  walk_at "s"
  refine dIx_h md4.top at0 ?_
  refine dIt_h md4.made ?_
  refine forD_ind (fun zs ρ st' => ∃ (dn lf : List (Str × Kd)) (z2 z3 z4 : Option D), xs = dn ++ lf ∧ zs = (lf.map nmT).map (fun t => t.1.d) ∧ BankAt c B (dn.map nmT) st' ∧ BankOk (dn.map nmT) ∧ Fx [] st st' ∧ ρ = [some (.hdl hm), some (.hdl B.b), z2, z3, z4]) ?_ ?_ _ _ _ ⟨[], xs, none, none, none, rfl, rfl, hb4, bank0, g4, rfl⟩
  case refine_2 =>
    rintro y ys ρ st' K ⟨dn, lf, z2, z3, z4, a1, a2, b1, b2, f, rfl⟩ hK
    cases lf with
    | nil => cases a2
    | cons v lf =>
    cases a2
    obtain ⟨x, kd⟩ := v
    have md' := md.fx f (by simp) (by simp) (by simp)
    have hlen := congrArg List.length a1
    simp at hlen
    have hin : (x, kd) ∈ xs := by rw [a1]; simp
    have hx : x ∉ dn.map (·.1) := by
      have hdup := nm.nd
      rw [a1, List.map_append, List.nodup_append] at hdup
      intro z
      exact absurd rfl (hdup.2.2 x z x (by simp))
    refine ⟨md'.made, ?_⟩
    walk_at "s"
    refine ⟨rfl, ?_⟩
    walk_at "s"
    refine ⟨rfl, ?_⟩
    walk_at "s"
    refine ⟨b1.is, ?_⟩
    walk_at "s"
    refine ixT0 ?_
    walk_at "s"
    refine ixT1 ?_
    walk_at "s"
    refine ⟨B, dn.map nmT, x, kd.d, kd, rfl, .inl rfl, hk _ hin, b1, b2, by simp; omega, nm.ok x (List.mem_map_of_mem hin), ?_, ?_⟩
    · intro i k' e
      exact absurd (ndAt_nm e) hx
    · intro i ts' st9 e c1 c2 f9
      rw [bput_none (nIx_nm hx)] at e
      cases e
      have e2 : dn.map nmT ++ [(Nd.nm x kd, kd)] = (dn ++ [(x, kd)]).map nmT := by simp [nmT]
      rw [e2] at c1 c2
      exact hK _ _ ⟨dn ++ [(x, kd)], lf, _, _, _, by rw [a1]; simp, rfl, c1, c2, f.far f9 (fun k hk => Nat.le_of_lt (hfp k hk)), rfl⟩
  rintro ρ st' ⟨dn, lf, z2, z3, z4, a1, a2, b1, b2, f, rfl⟩
  have md' := md.fx f (by simp) (by simp) (by simp)
  refine ⟨md'.made, ?_⟩
  cases lf with
  | cons v lf => cases a2
  | nil =>
  rw [List.append_nil] at a1
  subst a1
  walk_at "s"
  exact kk B st' b1 b2 f (by omega) (fun k hk => Nat.le_of_lt (hfp k hk))

theorem rule_word {w : Str} (h : (ruleOf w).isSome = true) : w ∈ wordL := by
  cases q : ruleOf w with
  | none => rw [q] at h; cases h
  | some g =>
    unfold ruleOf at q
    have hm : ∀ {l : List (Str × (List Kd → List D → Option Kd))}, l.lookup w = some g → w ∈ l.map (·.1) := by
      intro l
      induction l with
      | nil => intro e; simp at e
      | cons p l ih =>
        intro e
        simp only [List.lookup] at e
        split at e
        · rename_i q
          have : w = p.1 := by simpa using q
          subst this; simp
        · exact List.mem_cons_of_mem _ (ih e)
    exact hm q
theorem BankOk.txt {ts : Ts} (h : BankOk ts) : ∀ t ∈ ts, ndTxt t.1 := by
  intro t ht
  obtain ⟨i, hi, e⟩ := List.getElem_of_mem ht
  have e2 : ts[i]? = some t := by rw [List.getElem?_eq_getElem hi, e]
  have := h.ok i t e2
  obtain ⟨n, kd⟩ := t
  cases n with
  | nm x k => exact this.2.2
  | ap w ps ms => exact rule_word (kind_word this.2.1)
theorem nIx_at {ts : Ts} (h : BankOk ts) {n : Nd} {i : Nat} (e : ndAt ts i = some n) : nIx n ts = some i := by
  cases q : nIx n ts with
  | none => exact absurd e (nIx_none q i)
  | some j =>
    have e2 := nIx_some q
    have hi := ndAt_lt e
    have hj := ndAt_lt e2
    unfold ndAt at e e2
    rw [← List.getElem?_map] at e e2
    have h1 : (ts.map (·.1))[i]? = some n := e
    have h2 : (ts.map (·.1))[j]? = some n := e2
    have hi' : i < (ts.map (·.1)).length := by simpa using hi
    rw [(List.getElem?_inj hi' h.nd).mp (h1.trans h2.symm)]
theorem BankOk.good {ts : Ts} (h : BankOk ts) {i : Nat} {w : Str} {ps : List Nat} {ms : List Int} {kd : Kd} (e : ts[i]? = some (.ap w ps ms, kd)) : Good ts w ps ms kd := by
  obtain ⟨h1, h2, h3⟩ := h.ok i _ e
  have hi := ltOf e
  have hl := kindOf_len h2
  simp at hl
  exact ⟨rule_word (kind_word h2), fun p hp => by have := h1 p hp; omega, h2, h3, hl.1, hl.2⟩
theorem bput_kind {ts ts' : Ts} {n : Nd} {k : Kd} {i : Nat} (e : bput ts n k = (i, ts')) : ts.length ≤ ts'.length ∧ ts'.length ≤ ts.length + 1 ∧ (∀ j, j < ts.length → kindAt ts' j = kindAt ts j) ∧ (∀ (j : Nat) (t : Nd × Kd), ts[j]? = some t → ts'[j]? = some t) ∧ (HasK (ts.map (·.2)) → HasK (ts'.map (·.2))) := by
  cases q : nIx n ts with
  | some j => rw [bput_some q] at e; cases e; exact ⟨Nat.le_refl _, by omega, fun _ _ => rfl, fun _ _ h => h, fun h => h⟩
  | none =>
    rw [bput_none q] at e; cases e
    refine ⟨by simp, by simp, fun j hj => kindAt_app hj, fun j t h => by rw [List.getElem?_append_left (ltOf h)]; exact h, ?_⟩
    rintro ⟨⟨m, h1⟩, p, m', h2⟩
    rw [List.map_append]
    exact ⟨⟨m, List.mem_append_left _ h1⟩, p, m', List.mem_append_left _ h2⟩
/-- what stays: the bank, its model, the reel -/
structure LB (c : Cl) (B : BH) (b hm a k n : Nat) (ts : Ts) (st : Sto) : Prop where
  bank : BankAt c B ts st
  ok : BankOk ts
  md : MdAt hm a k ts st
  spr : Spr st b n
  has : HasK (ts.map (·.2))
  nb : b ∉ B.fp ∧ b ≠ B.b ∧ b ≠ hm ∧ b ≠ a ∧ b ≠ k
  nm : hm ∉ B.fp ∧ hm ≠ B.b ∧ a ∉ B.fp ∧ a ≠ B.b ∧ k ∉ B.fp ∧ k ≠ B.b
section
variable {c : Cl} {B : BH} {b hm a k n : Nat} {ts : Ts} {st : Sto}
theorem LB.draw {m : Nat} {st' : Sto} (l : LB c B b hm a k n ts st) (s : SX b st m st') : LB c B b hm a k m ts st' := by
  obtain ⟨n1, n2, n3, n4, n5⟩ := l.nb
  exact ⟨l.bank.fx s.fx (by simp; exact Ne.symm n2) (fun j hj z => by simp at z; subst z; exact n1 hj), l.ok, l.md.fx s.fx (by simp; exact Ne.symm n3) (by simp; exact Ne.symm n4) (by simp; exact Ne.symm n5), s.spr, l.has, l.nb, l.nm⟩
theorem LB.fx0 {st' : Sto} (l : LB c B b hm a k n ts st) (f : Fx [] st st') : LB c B b hm a k n ts st' :=
  ⟨l.bank.fx f (by simp) (by simp), l.ok, l.md.fx f (by simp) (by simp) (by simp), l.spr.fx f (by simp), l.has, l.nb, l.nm⟩
theorem LB.up {m : Nat} (l : LB c B b hm a k n ts st) (h : n ≤ m) : LB c B b hm a k m ts st := ⟨l.bank, l.ok, l.md, l.spr.mono h, l.has, l.nb, l.nm⟩
theorem LB.same {st' : Sto} (l : LB c B b hm a k n ts st) (hb : BankAt c B ts st') (f : Fx B.fp st st') : LB c B b hm a k n ts st' :=
  ⟨hb, l.ok, l.md.fx f l.nm.1 l.nm.2.2.1 l.nm.2.2.2.2.1, l.spr.fx f l.nb.1, l.has, l.nb, l.nm⟩
theorem LB.put {st1 st2 : Sto} {ts' : Ts} {nd : Nd} {kd : Kd} {i : Nat} (l : LB c B b hm a k n ts st) (e : bput ts nd kd = (i, ts')) (hb : BankAt c B ts' st1) (ho : BankOk ts') (f : Fx B.fp st st1) (md : MdAt hm a k ts' st2) (g : Fx [a, k] st1 st2) : LB c B b hm a k n ts' st2 := by
  obtain ⟨n1, n2, n3, n4, n5⟩ := l.nb
  obtain ⟨m1, m2, m3, m4, m5, m6⟩ := l.nm
  refine ⟨hb.fx g (by simp; exact ⟨Ne.symm m4, Ne.symm m6⟩) ?_, ho, md, (l.spr.fx f n1).fx g (by simp; exact ⟨n4, n5⟩), (bput_kind e).2.2.2.2 l.has, l.nb, l.nm⟩
  intro j hj z
  simp at z
  rcases z with rfl | rfl
  · exact m3 hj
  · exact m5 hj
end

theorem sWh_i {c : MT} {b : MS} {nx : DEnv → Sto → Prop} {rt : DQ} {bk ct : DEnv → Sto → Prop} {xq : XQ} {ρ : DEnv} {st : Sto} (Wv : Nat → DEnv → Sto → Prop) (m : Nat) (h0 : Wv m ρ st)
    (h : ∀ m ρ st, Wv m ρ st → c ρ st (fun z st1 => if z = true then b ⟨fun ρ' st' => ∃ m', m' < m ∧ Wv m' ρ' st', rt, nx, fun ρ' st' => ∃ m', m' < m ∧ Wv m' ρ' st', xq⟩ ρ st1 else nx ρ st1) xq) : sWh c b ⟨nx, rt, bk, ct, xq⟩ ρ st := ⟨Wv, ⟨m, h0⟩, h⟩
theorem ers : ∀ {L : List Nat} {t : Nat}, t ∈ L → ∃ i, L[i]? = some t ∧ (∀ m, m < i → L[m]? ≠ some t) ∧ L.eraseIdx i = L.erase t
  | a :: L, t, h => by
    by_cases e : a = t
    · subst e
      exact ⟨0, rfl, fun m hm => by omega, by simp⟩
    · have h2 : t ∈ L := by
        rcases List.mem_cons.mp h with h | h
        · exact absurd h.symm e
        · exact h
      obtain ⟨i, h3, h4, h5⟩ := ers h2
      refine ⟨i + 1, h3, ?_, ?_⟩
      · intro m hm
        cases m with
        | zero => simpa using e
        | succ m => exact h4 m (by omega)
      · rw [List.eraseIdx_cons_succ, h5, List.erase_cons_tail (by simpa using e)]
theorem dNs_ers : ∀ (L : List Nat) (i : Nat), ((L.map fun n : Nat => (n : Int)).eraseIdx i).map D.int = dNs (L.eraseIdx i)
  | [], i => by simp
  | a :: L, 0 => by simp [dNs]
  | a :: L, i + 1 => by simpa [dNs] using dNs_ers L i
theorem dRem_n {st : Sto} {R : DQ} {j : Nat} {L : List Nat} {t : Nat} (e : st[j]? = some (.lst (dNs L))) (ht : t ∈ L) (h : R .non (st.set j (.lst (dNs (L.erase t))))) : dRem (.hdl j) [.int (t : Int)] st R := by
  obtain ⟨i, h1, h2, h3⟩ := ers ht
  have e2 : dNs L = (L.map fun n : Nat => (n : Int)).map D.int := by simp [dNs]
  rw [e2] at e
  refine dRem_h (i := i) e (by rw [List.getElem?_map, h1]; rfl) ?_ ?_
  · intro m hm z
    rw [List.getElem?_map, Option.map_eq_some_iff] at z
    obtain ⟨a, q, q2⟩ := z
    have : a = t := by omega
    subst this
    exact h2 m hm q
  · rw [dNs_ers, h3]; exact h
theorem dEQ_hn {n : Bool} {st : Sto} {R : DQ} {j : Nat} {L : List Nat} (e : st[j]? = some (.lst (dNs L))) (h : R (.bl (xorB n L.isEmpty)) st) : dEQ n (.hdl j) (.lst []) st R := by
  have e2 : dNs L = dIs (L.map fun n : Nat => (n : Int)) := by simp [dNs, dIs]
  rw [e2] at e
  refine ⟨1, .list ((L.map fun n : Nat => (n : Int)).map PyData.int), .list [], ?_, rfl, ints_sh _, by decide, ?_⟩
  · have := int_py (L.map fun n : Nat => (n : Int))
    simp only [res, dr, e, List.map_id']
    exact this
  · have : PyData.eqv (.list ((L.map fun n : Nat => (n : Int)).map PyData.int)) (.list []) = L.isEmpty := by
      cases L <;> simp [PyData.eqv, PyData.eqvAll]
    rw [this]; exact h
theorem any_ints (r : List Int) (l : Int) : ((dIs r).any fun y => eqFD y (.int l)) = decide (l ∈ r) := by
  induction r with
  | nil => rfl
  | cons x r ih =>
    simp only [dIs, List.map_cons, List.any_cons] at ih ⊢
    rw [ih]
    by_cases h : x = l
    · subst h; simp [eqFD, fv, eqV]
    · have : ¬ l = x := fun q => h q.symm
      simp [eqFD, fv, eqV, h, this]
theorem flat_ints (r : List Int) : (dIs r).all flatD = true := by
  rw [List.all_eq_true]
  intro x hx
  obtain ⟨i, _, rfl⟩ := List.mem_map.mp hx
  rfl
theorem dIN_n {st : Sto} {R : DQ} {j : Nat} {L : List Nat} {p : Nat} (e : st[j]? = some (.lst (dNs L))) (h : R (.bl (decide (p ∈ L))) st) : dIN false (.int (p : Int)) (.hdl j) st R := by
  have e2 : dNs L = dIs (L.map fun n : Nat => (n : Int)) := by simp [dNs, dIs]
  rw [e2] at e
  simp only [dIN, dr_hdl e]
  refine ⟨rfl, flat_ints _, ?_⟩
  rw [any_ints]
  have : decide ((p : Int) ∈ L.map fun n : Nat => (n : Int)) = decide (p ∈ L) := by
    apply decide_eq_decide.mpr
    rw [List.mem_map]
    constructor
    · rintro ⟨a, ha, q⟩
      have : a = p := by omega
      subst this; exact ha
    · intro hp; exact ⟨p, hp, rfl⟩
  simp only [Bool.false_eq_true, if_false, this]
  exact h
/-- parts of the term at t: as the model tells them -/
theorem parts_ix {st : Sto} {R : DQ} {n : Nd} (h : R (.tup (dNs (ndParts n))) st) : dIx n.d (.int 1) st R := by
  cases n with
  | nm x k => exact ixT1 h
  | ap w ps ms => exact ixT1 h
/-- what is left, what is found of an order -/
structure OG (ts : Ts) (F L : List Nat) : Prop where
  mem : ∀ x, x ∈ L ↔ x < ts.length ∧ x ∉ F
  lt : ∀ x ∈ F, x < ts.length
  nd : F.Nodup
  up : L.Pairwise (· < ·)
  len : F.length + L.length = ts.length
  ahead : ∀ (i t p : Nat) (n : Nd), F[i]? = some t → ndAt ts t = some n → p ∈ ndParts n → p ∈ F.take i
theorem OG.nodup {ts : Ts} {F L : List Nat} (g : OG ts F L) : L.Nodup := g.up.imp fun h => Nat.ne_of_lt h
theorem parts_lt {ts : Ts} (h : BankOk ts) {t p : Nat} {n : Nd} (e : ndAt ts t = some n) (hp : p ∈ ndParts n) : p < t := by
  unfold ndAt at e
  rw [Option.map_eq_some_iff] at e
  obtain ⟨⟨n', kd⟩, e1, rfl⟩ := e
  cases n' with
  | nm x k => cases hp
  | ap w ps ms => exact (h.ok t _ e1).1 p hp
theorem ndAt_some {ts : Ts} {t : Nat} (h : t < ts.length) : ndAt ts t = some ts[t].1 := by simp [ndAt, h]
theorem OG.free {ts : Ts} {F L : List Nat} (g : OG ts F L) (h : BankOk ts) (hL : L ≠ []) : ∃ t ∈ L, ∀ n, ndAt ts t = some n → (ndParts n).filter (fun p => decide (p ∈ L)) = [] := by
  cases L with
  | nil => exact absurd rfl hL
  | cons t L =>
    refine ⟨t, by simp, ?_⟩
    intro n e
    rw [List.filter_eq_nil_iff]
    intro p hp z
    have hlt := parts_lt h e hp
    have hpl : p ∈ t :: L := by simpa using z
    rcases List.mem_cons.mp hpl with q | q
    · omega
    · have := (List.pairwise_cons.mp g.up).1 p q
      omega
theorem OG.step {ts : Ts} {F L : List Nat} (g : OG ts F L) (h : BankOk ts) {t : Nat} (ht : t ∈ L) (hf : ∀ n, ndAt ts t = some n → (ndParts n).filter (fun p => decide (p ∈ L)) = []) : OG ts (F ++ [t]) (L.erase t) := by
  obtain ⟨h1, h2⟩ := (g.mem t).mp ht
  have hlen : (L.erase t).length + 1 = L.length := by
    rw [List.length_erase_of_mem ht]
    have := List.length_pos_of_mem ht
    omega
  refine ⟨?_, ?_, ?_, ?_, ?_, ?_⟩
  · intro x
    rw [g.nodup.mem_erase_iff, g.mem x]
    simp only [List.mem_append, List.mem_singleton, not_or]
    exact ⟨fun ⟨a, b, d⟩ => ⟨b, d, a⟩, fun ⟨b, d, a⟩ => ⟨a, b, d⟩⟩
  · intro x hx
    rcases List.mem_append.mp hx with hx | hx
    · exact g.lt x hx
    · simp at hx; subst hx; exact h1
  · rw [List.nodup_append]
    exact ⟨g.nd, by simp, fun a ha b hb z => by simp at hb; subst hb; subst z; exact h2 ha⟩
  · exact g.up.sublist (List.erase_sublist)
  · have := g.len
    simp
    omega
  · intro i t' p n e1 e2 hp
    by_cases hi : i < F.length
    · rw [List.getElem?_append_left hi] at e1
      rw [List.take_append_of_le_length (by omega)]
      exact g.ahead i t' p n e1 e2 hp
    · have := ltOf e1
      simp at this
      have : i = F.length := by omega
      subst this
      simp at e1
      subst e1
      rw [List.take_left']
      · have hlt := parts_lt h e2 hp
        have hn : p ∉ L := by
          intro z
          have := hf n e2
          rw [List.filter_eq_nil_iff] at this
          exact this p hp (by simpa using z)
        have := (g.mem p)
        exact Classical.byContradiction fun z => hn (this.mpr ⟨by omega, z⟩)
      · rfl
theorem OG.done {ts : Ts} {F : List Nat} (g : OG ts F []) : OrdOk ts F := by
  refine ⟨?_, g.ahead⟩
  rw [List.perm_ext_iff_of_nodup g.nd List.nodup_range]
  intro x
  rw [List.mem_range]
  constructor
  · exact g.lt x
  · intro hx
    exact Classical.byContradiction fun z => by
      have := (g.mem x).mpr ⟨hx, z⟩
      cases this
theorem OG.init (ts : Ts) : OG ts [] (List.range ts.length) :=
  ⟨fun x => by simp, by simp, by simp, List.pairwise_lt_range, by simp, by simp⟩
theorem made_ix {hm a k : Nat} {ts : Ts} {st : Sto} {R : DQ} {r : Int} {t : Nd × Kd} (md : MdAt hm a k ts st) (h0 : 0 ≤ r) (e : ts[r.toNat]? = some t) (h : R t.1.d st) : dIx (.hdl a) (.int r) st R :=
  dIx_nth md.made h0 (by rw [List.getElem?_map, e]; rfl) h
theorem parts_few {ts : Ts} (h : BankOk ts) {t : Nat} {n : Nd} (e : ndAt ts t = some n) : (ndParts n).length ≤ 1000 := by
  unfold ndAt at e
  rw [Option.map_eq_some_iff] at e
  obtain ⟨⟨n', kd⟩, e1, rfl⟩ := e
  have := h.sm e1
  cases n' with
  | nm x k => simp [ndParts]
  | ap w ps ms => exact this.1

theorem rng_nats (n : Nat) : rngD 0 n = dNs (List.range n) := by
  unfold rngD dNs
  apply List.map_congr_left
  intro a _
  simp
theorem sem_law_order (c : Cl) : ∀ ds st R xq, sp_law_order c ds st R xq → w_law_order c (EndsOf R xq) (startD ["_law_reel_here", "_law_model", "_law_left", "_law_found", "_law_free", "_law_term", "_law_part"] ds) st := by
  rintro ds st R xq ⟨b, n, hm, a, k, ts, rfl, spr, hn, md, ho, hl, n1, n2, n3, kk⟩
  show w_law_order c ⟨_, _, _, _, _⟩ [some (.hdl b), some (.hdl hm), none, none, none, none, none] st
  unfold w_law_order
  have sb := spr.lt
  have m1 := ltOf md.top
  have m2 := ltOf md.made
  have m3 := ltOf md.sorts
  walk_at "s"
  refine dIx_h md.top at0 ?_
  walk_at "s"
  refine dLen_h md.made ?_
  rw [List.length_map]
  refine ⟨by omega, by omega, ?_⟩
  rw [Int.toNat_natCast, rng_nats]
  walk_at "s"
  have s0 : SX b st n ((st ++ [Cell.lst (dNs (List.range ts.length))]) ++ [Cell.lst []]) := (SX.refl spr).app.app
  have L0 : ((st ++ [Cell.lst (dNs (List.range ts.length))]) ++ [Cell.lst []])[st.length]? = some (.lst (dNs (List.range ts.length))) := appL appN
  have F0 : ((st ++ [Cell.lst (dNs (List.range ts.length))]) ++ [Cell.lst []])[(st ++ [Cell.lst (dNs (List.range ts.length))]).length]? = some (.lst (dNs [])) := appN
  have hFl : (st ++ [Cell.lst (dNs (List.range ts.length))]).length = st.length + 1 := by simp
  rw [hFl] at F0 ⊢
  generalize ((st ++ [Cell.lst (dNs (List.range ts.length))]) ++ [Cell.lst []]) = st0 at s0 L0 F0
  refine sWh_i (fun m ρ st' => ∃ (F L : List Nat) (z : Option D), ρ = [some (.hdl b), some (.hdl hm), some (.hdl st.length), some (.hdl (st.length + 1)), z, none, none] ∧ st'[st.length]? = some (.lst (dNs L)) ∧ st'[st.length + 1]? = some (.lst (dNs F)) ∧ SX b st (n + F.length) st' ∧ OG ts F L ∧ m = L.length) ts.length ⟨[], _, none, rfl, L0, F0, s0, OG.init ts, by simp⟩ ?_
  rintro m ρ st' ⟨F, L, z, rfl, hL, hF, s, g, rfl⟩
  have gl := g.len
  walk_at "s"
  refine dEQ_hn hL ?_
  cases hLe : L with
  | nil =>
    rw [hLe] at g hL
    walk_at "s"
    exact kk F _ st' g.done (s.mono (by omega)) (by omega) hF
  | cons l0 l1 =>
    rw [← hLe]
    refine ifT (by rw [hLe]; rfl) ?_
    have hne : L ≠ [] := by rw [hLe]; simp
    have md' : MdAt hm a k ts st' := md.fx s.fx (by simp; omega) (by simp; omega) (by simp; omega)
    walk_at "s"
    refine dIt_h hL ?_
    refine lcD_ind (fun ys acc st2 => st2 = st' ∧ ∃ (dn lf fr : List Nat), L = dn ++ lf ∧ ys = dNs lf ∧ acc = dNs fr ∧ fr.length ≤ dn.length ∧ (∀ t ∈ fr, t ∈ L ∧ ∀ n, ndAt ts t = some n → (ndParts n).filter (fun p => decide (p ∈ L)) = []) ∧ (∀ t ∈ dn, (∀ n, ndAt ts t = some n → (ndParts n).filter (fun p => decide (p ∈ L)) = []) → t ∈ fr)) ?_ ?_ _ _ _ ⟨rfl, [], L, [], rfl, rfl, rfl, Nat.le_refl _, by simp, by simp⟩
    case refine_2 =>
      rintro y ys acc st2 K ⟨e0, dn, lf, fr, a1, a2, rfl, a3, a4, a5⟩ hK
      cases lf with
      | nil => cases a2
      | cons t lf =>
      cases a2
      subst e0
      have hlen := congrArg List.length a1
      simp at hlen
      have htL : t ∈ L := by rw [a1]; simp
      obtain ⟨htl, _⟩ := (g.mem t).mp htL
      have hnd := ndAt_some htl
      refine ⟨hL, ?_⟩
      walk_at "s"
      refine dIx_h md'.top at0 ?_
      walk_at "s"
      refine made_ix md' (by omega) (by rw [Int.toNat_natCast]; exact List.getElem?_eq_getElem htl) ?_
      walk_at "s"
      refine parts_ix ?_
      generalize ts[t].1 = nd at hnd
      refine dIt_t ?_
      refine lcD_ind (fun ys acc st3 => st3 = st2 ∧ ∃ (dn lf : List Nat), ndParts nd = dn ++ lf ∧ ys = dNs lf ∧ acc = dNs (dn.filter fun p => decide (p ∈ L))) ?_ ?_ _ _ _ ⟨rfl, [], ndParts nd, rfl, rfl, rfl⟩
      case refine_2 =>
        rintro y ys acc st3 K3 ⟨e0, dn, lf, b1, b2, rfl⟩ hK3
        cases lf with
        | nil => cases b2
        | cons p lf =>
        cases b2
        subst e0
        have hfl := List.length_filter_le (fun p => decide (p ∈ L)) dn
        refine ⟨trivial, ?_⟩
        walk_at "s"
        refine dIN_n hL ?_
        by_cases q : p ∈ L
        · refine ifT (by simpa using q) ?_
          walk_at "s"
          refine ⟨?_, hK3 _ _ ⟨rfl, dn ++ [p], lf, by rw [b1]; simp, rfl, by simp [q]⟩⟩
          have hpf := parts_few ho hnd
          have h4 := congrArg List.length b1
          simp at h4
          simp only [List.length_map, sizeLine]
          omega
        · refine ifF (by simpa using q) ?_
          exact hK3 _ _ ⟨rfl, dn ++ [p], lf, by rw [b1]; simp, rfl, by simp [q]⟩
      rintro acc3 st3 ⟨rfl, dn3, lf3, b1, b2, rfl⟩
      refine ⟨trivial, ?_⟩
      cases lf3 with
      | cons v lf => cases b2
      | nil =>
      rw [List.append_nil] at b1
      subst b1
      clear b2
      walk_at "s"
      refine dEQ_ln ?_
      cases hfe : (ndParts nd).filter (fun p => decide (p ∈ L)) with
      | nil =>
        walk_at "s"
        refine ⟨by simp only [List.length_map, sizeLine]; omega, hK _ _ ⟨rfl, dn ++ [t], lf, fr ++ [t], by rw [a1]; simp, rfl, by simp [dNs], by simp; omega, ?_, ?_⟩⟩
        · intro t' ht'
          rcases List.mem_append.mp ht' with ht' | ht'
          · exact a4 t' ht'
          · simp at ht'
            subst ht'
            exact ⟨htL, fun n e => by rw [hnd] at e; cases e; exact hfe⟩
        · intro t' ht' hf'
          rcases List.mem_append.mp ht' with ht' | ht'
          · exact List.mem_append_left _ (a5 t' ht' hf')
          · exact List.mem_append_right _ ht'
      | cons q1 q2 =>
        walk_at "s"
        refine hK _ _ ⟨rfl, dn ++ [t], lf, fr, by rw [a1]; simp, rfl, rfl, by simp; omega, a4, ?_⟩
        intro t' ht' hf'
        rcases List.mem_append.mp ht' with ht' | ht'
        · exact a5 t' ht' hf'
        · simp at ht'
          subst ht'
          have := hf' nd hnd
          rw [hfe] at this
          cases this
    rintro acc st2 ⟨rfl, dn, lf, fr, a1, a2, rfl, a3, a4, a5⟩
    refine ⟨hL, ?_⟩
    cases lf with
    | cons v lf => cases a2
    | nil =>
    rw [List.append_nil] at a1
    clear a2
    have frp : 1 ≤ fr.length := by
      obtain ⟨t, h1, h2⟩ := g.free ho hne
      rw [a1] at h1
      exact List.length_pos_of_mem (a5 t h1 h2)
    have hdl := congrArg List.length a1
    walk_at "s"
    refine ⟨isLD_h hF, ?_⟩
    walk_at "s"
    have hfl : (dNs fr).length = fr.length := by simp
    rw [hfl]
    refine ⟨b, _, _, rfl, s.spr, by omega, by omega, by omega, ?_⟩
    intro r st3 r0 r1 s3 l3
    have hi : r.toNat < fr.length := by omega
    refine dIx_l (atI_natG r0 (d := .int (fr[r.toNat] : Nat)) (by rw [List.getElem?_map, List.getElem?_eq_getElem hi]; rfl)) ?_
    have ht := a4 _ (List.getElem_mem hi)
    generalize fr[r.toNat] = t at ht
    obtain ⟨ht, hf⟩ := ht
    have ss := s.trans s3
    have hL3 := s3.cell hL (by omega)
    have hF3 := s3.cell hF (by omega)
    walk_at "s"
    refine dApp_h hF3 (by simp only [List.length_map, sizeLine]; omega) ?_
    have e5 : dNs F ++ [D.int (t : Int)] = dNs (F ++ [t]) := by simp [dNs]
    rw [e5]
    have s4 : SX b st (n + (F.length + 1)) (st3.set (st.length + 1) (.lst (dNs (F ++ [t])))) := ss.own (by omega) sb
    have hL4 : (st3.set (st.length + 1) (.lst (dNs (F ++ [t]))))[st.length]? = some (.lst (dNs L)) := by rw [List.getElem?_set_ne (by omega)]; exact hL3
    have hF4 : (st3.set (st.length + 1) (.lst (dNs (F ++ [t]))))[st.length + 1]? = some (.lst (dNs (F ++ [t]))) := setSame hF3
    generalize (st3.set (st.length + 1) (.lst (dNs (F ++ [t])))) = st4 at s4 hL4 hF4
    walk_at "s"
    refine ⟨isLD_h hL4, ?_⟩
    walk_at "s"
    refine dIx_h hF4 (d := .int (t : Int)) (by rw [← e5]; exact atI_last _ _) ?_
    walk_at "s"
    refine dRem_n hL4 ht ?_
    walk_at "s"
    have g2 := g.step ho ht hf
    refine ⟨_, ?_, F ++ [t], L.erase t, _, rfl, setSame hL4, ?_, ?_, g2, rfl⟩
    · have := g2.len
      simp at this
      omega
    · rw [List.getElem?_set_ne (by omega)]; exact hF4
    · have : (F ++ [t]).length = F.length + 1 := by simp
      rw [this]
      exact s4.own (by omega) sb

theorem valD_map {m : Nat → Nat} {p : Nat} : ∀ {dn : List Nat}, p ∈ dn → valD (mapD m dn) (.inl (p : Int)) = some (.int ((m p : Nat) : Int))
  | a :: dn, h => by
    by_cases e : a = p
    · subst e
      simp [mapD, valD]
    · have h2 : p ∈ dn := by
        rcases List.mem_cons.mp h with h | h
        · exact absurd h.symm e
        · exact h
      have ih := valD_map (m := m) h2
      have : ¬ ((Sum.inl (a : Int) : Key) = .inl (p : Int)) := by
        intro z
        have := Sum.inl.inj z
        omega
      simp only [valD, mapD, List.map_cons, List.find?_cons] at ih ⊢
      rw [show decide ((Sum.inl (a : Int) : Key) = .inl (p : Int)) = false from decide_eq_false this]
      exact ih
theorem valD_mapN {m : Nat → Nat} {p : Nat} {dn : List Nat} (h : p ∉ dn) : valD (mapD m dn) (.inl (p : Int)) = none := by
  cases q : valD (mapD m dn) (.inl (p : Int)) with
  | none => rfl
  | some d =>
    have := valD_mem q
    unfold mapD at this
    rw [List.mem_map] at this
    obtain ⟨a, ha, e⟩ := this
    have e1 := Sum.inl.inj (Prod.mk.inj e).1
    have : a = p := by omega
    subst this
    exact absurd ha h
theorem mapD_app {m : Nat → Nat} {dn : List Nat} {t : Nat} : mapD m (dn ++ [t]) = mapD m dn ++ [(.inl (t : Int), .int ((m t : Nat) : Int))] := by simp [mapD]
theorem OrdOk.nd {ts : Ts} {os : List Nat} (h : OrdOk ts os) : os.Nodup := h.perm.nodup_iff.mpr List.nodup_range
theorem sem_law_moved (c : Cl) : ∀ ds st R xq, sp_law_moved c ds st R xq → w_law_moved c (EndsOf R xq) (startD ["_law_bank", "_law_model", "_law_order_here", "_law_there", "_law_term", "_law_word", "_law_parts", "_law_tags", "_law_part"] ds) st := by
  rintro ds st R xq ⟨B, hm, a, k, ts, od, os, S, m, rfl, hb, hbo, md, ho, hl, ⟨n1, n2, n3⟩, oo, hod, hS, hst, kk⟩
  show w_law_moved c ⟨_, _, _, _, _⟩ [some (.hdl B.b), some (.hdl hm), some od, none, none, none, none, none, none] st
  unfold w_law_moved
  have m1 := ltOf md.top
  have m2 := ltOf md.made
  have m3 := ltOf md.sorts
  have hlo := hb.lo
  have onl := oo.perm.length_eq
  rw [List.length_range] at onl
  have hnd := oo.nd
  walk_at "s"
  have hd1 : (st ++ [Cell.dK []])[st.length]? = some (.dK []) := appN
  have f1 : Fx [] st (st ++ [Cell.dK []]) := Fx.refl.app
  have hod1 : SeqA (st.length :: B.fp) (st ++ [Cell.dK []]) od (dNs os) := by
    rcases hod with e | e | ⟨j, h1, h2, h3⟩
    · exact .inl e
    · exact .inr (.inl e)
    · refine .inr (.inr ⟨j, ?_, h2, appL h3⟩)
      have := ltOf h3
      simp only [List.mem_cons, not_or]
      exact ⟨by omega, h1⟩
  have hb1 := hb.fx f1 (by simp) (by simp)
  have md1 := md.fx f1 (by simp) (by simp) (by simp)
  have hl1 : (st ++ [Cell.dK []]).length = st.length + 1 := by simp
  generalize (st ++ [Cell.dK []]) = st1 at hd1 f1 hod1 hb1 md1 hl1
  refine hod1.it ?_
  intro inv hinv
  refine forD_ind (fun zs ρ st' => ∃ (dn lf : List Nat) (e4 e5 e6 e7 : Option D), os = dn ++ lf ∧ zs = dNs lf ∧ BankAt c B (S dn.length) st' ∧ BankOk (S dn.length) ∧ st'[st.length]? = some (.dK (mapD m dn)) ∧ Fx (st.length :: B.fp) st1 st' ∧ ρ = [some (.hdl B.b), some (.hdl hm), some od, some (.hdl st.length), e4, e5, e6, e7, none]) ?_ ?_ _ _ _ ⟨[], os, none, none, none, none, rfl, rfl, hb1, hbo, hd1, .refl, rfl⟩
  case refine_2 =>
    rintro z zs ρ st' K ⟨dn, lf, e4, e5, e6, e7, a1, a2, b1, b2, b3, b4, rfl⟩ hK
    cases lf with
    | nil => cases a2
    | cons t lf =>
    cases a2
    have hlen := congrArg List.length a1
    simp at hlen
    have hos : os[dn.length]? = some t := by rw [a1]; simp
    have hto : t ∈ os := by rw [a1]; simp
    have htl : t < ts.length := by have := oo.perm.mem_iff.mp hto; simpa using this
    have htd : t ∉ dn := by
      have := hnd
      rw [a1, List.nodup_append] at this
      intro z
      exact absurd rfl (this.2.2 t z t (by simp))
    have sk := hst _ _ hos
    have hmn : hm ∉ st.length :: B.fp := by simp only [List.mem_cons, not_or]; exact ⟨by omega, n1⟩
    have han : a ∉ st.length :: B.fp := by simp only [List.mem_cons, not_or]; exact ⟨by omega, n2⟩
    have hkn : k ∉ st.length :: B.fp := by simp only [List.mem_cons, not_or]; exact ⟨by omega, n3⟩
    have md' := md1.fx b4 hmn han hkn
    have ht : ts[t]? = some ts[t] := List.getElem?_eq_getElem htl
    generalize ts[t] = tt at ht
    obtain ⟨nd, kd⟩ := tt
    have hnt : ndAt ts t = some nd := by unfold ndAt; rw [ht]; rfl
    have hput := sk.put nd kd ht
    have hsl := hS dn.length
    have hml : (mapD m dn).length = dn.length := by simp [mapD]
    have fin : ∀ (st9 : Sto) (q5 q6 q7 : Option D), BankAt c B (S (dn.length + 1)) st9 → BankOk (S (dn.length + 1)) → Fx B.fp st' st9 → K [some (.hdl B.b), some (.hdl hm), some od, some (.hdl st.length), some (.int (t : Int)), q5, q6, q7, none] (st9.set st.length (.dK (putD (mapD m dn) (.inl (t : Int)) (.int ((m t : Nat) : Int))))) := by
      intro st9 q5 q6 q7 h1 h2 h3
      have hdn : st.length ∉ B.fp := fun z => by have := hlo.2 _ z; omega
      have d9 := h3.at b3 hdn
      rw [putD_newB (valD_mapN htd), ← mapD_app]
      have fs : Fx [st.length] st9 (st9.set st.length (.dK (mapD m (dn ++ [t])))) := Fx.refl.set (.inl (by simp))
      refine hK _ _ ⟨dn ++ [t], lf, _, q5, q6, q7, by rw [a1]; simp, rfl, ?_, ?_, setSame d9, ?_, rfl⟩
      · rw [List.length_append]
        exact h1.fx fs (by simp; have := hlo.1; omega) (fun k hk => by simp; have := hlo.2 k hk; omega)
      · rw [List.length_append]; exact h2
      · exact (b4.trans h3 (fun k hk => .inl (List.mem_cons_of_mem _ hk))).trans fs (fun k hk => by simp at hk; subst hk; exact .inl (by simp))
    refine ⟨hinv _ b4, ?_⟩
    walk_at "s"
    refine dIx_h md'.top at0 ?_
    walk_at "s"
    refine made_ix md' (by omega) (by rw [Int.toNat_natCast]; exact ht) ?_
    walk_at "s"
    cases nd with
    | nm x q =>
      have hok := ho.ok t _ ht
      have hq : kd = q := hok.1
      subst hq
      refine ⟨rfl, ?_⟩
      walk_at "s"
      refine ⟨rfl, ?_⟩
      walk_at "s"
      refine ⟨b1.is, ?_⟩
      walk_at "s"
      refine ixT0 ?_
      walk_at "s"
      refine ixT1 ?_
      walk_at "s"
      refine ⟨B, S dn.length, x, kd.d, kd, rfl, .inl rfl, hok.2.1, b1, b2, by omega, hok.2.2, ?_, ?_⟩
      · intro i k' e'
        exact sk.nam x kd i k' hnt e'
      · intro i ts' st9 e2 hb2 ho2 f2
        have := hput.symm.trans e2
        cases this
        walk_at "s"
        have hdn : st.length ∉ B.fp := fun z => by have := hlo.2 _ z; omega
        refine dSet_k (f2.at b3 hdn) (by rw [hml]; simp only [sizeLine]; omega) rfl ?_
        exact fin st9 _ _ _ hb2 ho2 f2
    | ap w ps ms =>
      have gd := ho.good ht
      have hw := rule_name (kind_word gd.2.2.1)
      obtain ⟨p1, p2⟩ := sk.par w ps ms kd ht
      refine ⟨rfl, ?_⟩
      walk_at "s"
      refine ⟨rfl, ?_⟩
      walk_at "s"
      refine ifF (by simpa [xorB] using hw) ?_
      walk_at "s"
      refine ⟨b1.is, ?_⟩
      walk_at "s"
      refine lcD_ind (fun ys acc st2 => st2 = st' ∧ ∃ pd pf : List Nat, ps = pd ++ pf ∧ ys = dNs pf ∧ acc = dNs (pd.map m)) ?_ ?_ _ _ _ ⟨rfl, [], ps, rfl, rfl, rfl⟩
      case refine_2 =>
        rintro y ys acc st2 K2 ⟨e0, pd, pf, c1, c2, rfl⟩ hK2
        cases pf with
        | nil => cases c2
        | cons p pf =>
        cases c2
        subst e0
        have hl2 := congrArg List.length c1
        simp at hl2
        have hg4 := gd.2.2.2.2.1
        have hpd : p ∈ dn := by
          have := oo.ahead dn.length t p _ hos hnt (by show p ∈ ps; rw [c1]; simp)
          rw [a1, List.take_left'] at this
          · exact this
          · rfl
        refine ⟨trivial, ?_⟩
        walk_at "s"
        refine dIx_k b3 rfl (valD_map hpd) ?_
        exact ⟨by simp only [List.length_map, sizeLine]; omega, hK2 _ _ ⟨rfl, pd ++ [p], pf, by rw [c1]; simp, rfl, by simp [dNs]⟩⟩
      rintro acc st2 ⟨rfl, pd, pf, c1, c2, rfl⟩
      refine ⟨trivial, ?_⟩
      cases pf with
      | cons v lf => cases c2
      | nil =>
      rw [List.append_nil] at c1
      subst c1
      clear c2
      walk_at "s"
      refine ⟨rfl, rfl, ?_⟩
      refine ⟨B, S dn.length, w, .lst (dNs (ps.map m)), .tup (dIs ms), ps.map m, ms, kd, rfl, b1, b2, by omega, .inl rfl, .inr (.inl rfl), by have := gd.2.2.2.2.1; simp; omega, by have := gd.2.2.2.2.2; omega, ?_, p2, ?_⟩
      · intro p hp
        rw [List.mem_map] at hp
        obtain ⟨q, hq, rfl⟩ := hp
        exact p1 q hq
      · intro i ts' st9 e2 hb2 ho2 f2
        have := hput.symm.trans e2
        cases this
        walk_at "s"
        have hdn : st.length ∉ B.fp := fun z => by have := hlo.2 _ z; omega
        refine dSet_k (f2.at b3 hdn) (by rw [hml]; simp only [sizeLine]; omega) rfl ?_
        exact fin st9 _ _ _ hb2 ho2 f2
  rintro ρ st' ⟨dn, lf, e4, e5, e6, e7, a1, a2, b1, b2, b3, b4, rfl⟩
  refine ⟨hinv _ b4, ?_⟩
  cases lf with
  | cons v lf => cases a2
  | nil =>
  rw [List.append_nil] at a1
  subst a1
  walk_at "s"
  refine kk st.length st' b1 b2 ?_ (Nat.le_refl _) b3
  refine (f1.mono (F' := B.fp) (by simp)).trans b4 ?_
  intro k hk
  rcases List.mem_cons.mp hk with rfl | hk
  · exact .inr (Nat.le_refl _)
  · exact .inl hk

/-! ### all terms in another bank: pure -/
def ndD (ts : Ts) (t : Nat) : Nd := (ndAt ts t).getD (.nm "" .truth)
theorem ndD_at {ts : Ts} {t : Nat} {n : Nd} (h : ndAt ts t = some n) : ndD ts t = n := by unfold ndD; rw [h]; rfl
def S1 (ts : Ts) (os : List Nat) (m : Nat → Nat) (i : Nat) : Ts := (os.take i).map fun t => (remap m (ndD ts t), kindAt ts t)
def pos (os : List Nat) (t : Nat) : Nat := os.idxOf t
theorem pos_lt {os : List Nat} {t : Nat} (h : t ∈ os) : pos os t < os.length := List.idxOf_lt_length_iff.mpr h
theorem pos_get {os : List Nat} {t : Nat} (h : t ∈ os) : os[pos os t]? = some t := by
  have := pos_lt h
  rw [List.getElem?_eq_getElem this]
  exact congrArg some (List.getElem_idxOf this)
theorem pos_of {os : List Nat} (hn : os.Nodup) {i t : Nat} (e : os[i]? = some t) : pos os t = i := by
  have hm : t ∈ os := List.mem_of_getElem? e
  exact (List.getElem?_inj (pos_lt hm) hn).mp ((pos_get hm).trans e.symm)
theorem pos_inj {os : List Nat} {p q : Nat} (hp : p ∈ os) (hq : q ∈ os) (e : pos os p = pos os q) : p = q := by
  have h1 := pos_get hp
  have h2 := pos_get hq
  rw [e, h2] at h1
  exact (Option.some.inj h1).symm
theorem map_pos_inj {os : List Nat} : ∀ {ps qs : List Nat}, (∀ p ∈ ps, p ∈ os) → (∀ p ∈ qs, p ∈ os) → ps.map (pos os) = qs.map (pos os) → ps = qs
  | [], [], _, _, _ => rfl
  | [], _ :: _, _, _, h => by cases h
  | _ :: _, [], _, _, h => by cases h
  | a :: ps, b :: qs, h1, h2, h => by
    simp only [List.map_cons, List.cons.injEq] at h
    rw [pos_inj (h1 a (by simp)) (h2 b (by simp)) h.1, map_pos_inj (fun p hp => h1 p (by simp [hp])) (fun p hp => h2 p (by simp [hp])) h.2]
theorem S1_len {ts : Ts} {os : List Nat} {m : Nat → Nat} {i : Nat} (h : i ≤ os.length) : (S1 ts os m i).length = i := by
  unfold S1; rw [List.length_map, List.length_take]; omega
theorem S1_get {ts : Ts} {os : List Nat} {m : Nat → Nat} {i j s : Nat} (h : j < i) (e : os[j]? = some s) : (S1 ts os m i)[j]? = some (remap m (ndD ts s), kindAt ts s) := by
  unfold S1
  rw [List.getElem?_map, List.getElem?_take_of_lt h, e]; rfl
theorem S1_at {ts : Ts} {os : List Nat} {m : Nat → Nat} {i j : Nat} {n : Nd} (e : ndAt (S1 ts os m i) j = some n) : ∃ s, j < i ∧ os[j]? = some s ∧ n = remap m (ndD ts s) := by
  have hj := ndAt_lt e
  unfold S1 at hj
  rw [List.length_map, List.length_take] at hj
  have hi : j < i := by omega
  have ho : j < os.length := by omega
  have e2 := S1_get (ts := ts) (m := m) hi (List.getElem?_eq_getElem ho)
  unfold ndAt at e
  rw [e2] at e
  exact ⟨_, hi, List.getElem?_eq_getElem ho, (Option.some.inj e).symm⟩
section
variable {ts : Ts} {os : List Nat}
theorem OrdOk.lt (oo : OrdOk ts os) {t : Nat} (h : t ∈ os) : t < ts.length := by
  have := oo.perm.mem_iff.mp h
  simpa using this
theorem OrdOk.has (oo : OrdOk ts os) {t : Nat} (h : t < ts.length) : t ∈ os := oo.perm.mem_iff.mpr (by simpa using h)
theorem part_in (h : BankOk ts) (oo : OrdOk ts os) {t : Nat} {n : Nd} (e : ndAt ts t = some n) : ∀ p ∈ ndParts n, p ∈ os := by
  intro p hp
  have h1 := parts_lt h e hp
  have h2 := ndAt_lt e
  exact oo.has (by omega)
theorem remap_inj (h : BankOk ts) (oo : OrdOk ts os) {s t : Nat} {n n' : Nd} (e : ndAt ts s = some n) (e' : ndAt ts t = some n') (q : remap (pos os) n = remap (pos os) n') : n = n' := by
  have h1 := part_in h oo e
  have h2 := part_in h oo e'
  cases n with
  | nm x k =>
    cases n' with
    | nm y l => exact q
    | ap w ps ms => cases q
  | ap w ps ms =>
    cases n' with
    | nm y l => cases q
    | ap w' ps' ms' =>
      simp only [remap, Nd.ap.injEq] at q
      obtain ⟨q1, q2, q3⟩ := q
      have := map_pos_inj (os := os) (ps := ps) (qs := ps') h1 h2 q2
      rw [q1, q3, this]
theorem at_one (h : BankOk ts) {s t : Nat} {n : Nd} (e : ndAt ts s = some n) (e' : ndAt ts t = some n) : s = t := by
  have h1 := nIx_at h e
  have h2 := nIx_at h e'
  rw [h1] at h2
  exact Option.some.inj h2
theorem step1 (h : BankOk ts) (oo : OrdOk ts os) {i t : Nat} (e : os[i]? = some t) : StepOk ts (S1 ts os (pos os) i) (S1 ts os (pos os) (i + 1)) (pos os) t := by
  have hi := ltOf e
  have hl := S1_len (ts := ts) (m := pos os) (Nat.le_of_lt hi)
  have hp := pos_of oo.nd e
  refine ⟨?_, ?_, ?_⟩
  · intro n kd ht
    have hn : ndAt ts t = some n := by unfold ndAt; rw [ht]; rfl
    have hno : nIx (remap (pos os) n) (S1 ts os (pos os) i) = none := by
      cases q : nIx (remap (pos os) n) (S1 ts os (pos os) i) with
      | none => rfl
      | some j =>
        obtain ⟨s, hj, es, q2⟩ := S1_at (nIx_some q)
        have hs : ndAt ts s = some (ndD ts s) := by
          have := ndAt_some (oo.lt (List.mem_of_getElem? es))
          rw [this, ndD_at this]
        have := remap_inj h oo hn hs q2
        rw [← this] at hs
        have hst := at_one h hs hn
        subst hst
        have := pos_of oo.nd es
        omega
    rw [bput_none hno, hl, hp]
    congr 1
    unfold S1
    rw [List.take_succ, e]
    simp only [Option.toList_some, List.map_append, List.map_cons, List.map_nil, ndD_at hn]
    have : kindAt ts t = kd := by simp [kindAt, ht]
    rw [this]
  · intro x k j k' e1 e2
    obtain ⟨s, hj, es, q2⟩ := S1_at e2
    have hs : ndAt ts s = some (ndD ts s) := by
      have := ndAt_some (oo.lt (List.mem_of_getElem? es))
      rw [this, ndD_at this]
    generalize ndD ts s = n at hs q2
    cases n with
    | ap w ps ms => cases q2
    | nm y l =>
      simp only [remap, Nd.nm.injEq] at q2
      obtain ⟨rfl, rfl⟩ := q2
      have := h.nms _ _ _ _ _ hs e1
      subst this
      rw [hs] at e1
      cases e1
      rfl
  · intro w ps ms kd ht
    have hn : ndAt ts t = some (.ap w ps ms) := by unfold ndAt; rw [ht]; rfl
    have gd := h.good ht
    have key : ∀ p ∈ ps, pos os p < i ∧ kindAt (S1 ts os (pos os) i) (pos os p) = kindAt ts p := by
      intro p hp
      have h1 := oo.ahead i t p _ e hn hp
      obtain ⟨j, hj, e1⟩ := List.getElem_of_mem h1
      have hj' : j < i := by rw [List.length_take] at hj; omega
      have e2 : os[j]? = some p := by
        have := List.getElem?_eq_getElem hj
        rw [List.getElem?_take_of_lt hj'] at this
        rw [this, e1]
      have e3 := pos_of oo.nd e2
      rw [e3]
      refine ⟨hj', ?_⟩
      unfold kindAt
      rw [S1_get hj' e2]; rfl
    refine ⟨fun p hp => by rw [hl]; exact (key p hp).1, ?_⟩
    rw [List.map_map, ← gd.2.2.1]
    congr 1
    apply List.map_congr_left
    intro p hp
    exact (key p hp).2
theorem remap_id (n : Nd) : remap id n = n := by cases n <;> simp [remap]
theorem step2 (h : BankOk ts) {t : Nat} : StepOk ts ts ts id t := by
  refine ⟨?_, ?_, ?_⟩
  · intro n kd ht
    rw [remap_id]
    have hn : ndAt ts t = some n := by unfold ndAt; rw [ht]; rfl
    exact bput_some (nIx_at h hn)
  · intro x k i k' e1 e2
    have := h.nms _ _ _ _ _ e2 e1
    subst this
    rw [e2] at e1
    cases e1
    rfl
  · intro w ps ms kd ht
    have gd := h.good ht
    rw [List.map_id]
    exact ⟨gd.2.1, gd.2.2.1⟩
theorem ord_id (h : BankOk ts) : OrdOk ts (List.range ts.length) := by
  refine ⟨.refl _, ?_⟩
  intro i t p n e1 e2 hp
  have hi := ltOf e1
  rw [List.length_range] at hi
  rw [List.getElem?_range hi] at e1
  cases e1
  have := parts_lt h e2 hp
  rw [List.take_range, List.mem_range]
  omega
theorem pos_all (oo : OrdOk ts os) : os.map (pos os) = List.range ts.length := by
  have hl := oo.perm.length_eq
  rw [List.length_range] at hl
  apply List.ext_getElem?
  intro i
  by_cases hi : i < os.length
  · have e := List.getElem?_eq_getElem hi
    rw [List.getElem?_map, e, List.getElem?_range (by omega)]
    simp only [Option.map_some]
    rw [pos_of oo.nd e]
  · rw [List.getElem?_eq_none (by simp; omega), List.getElem?_eq_none (by simp; omega)]
end

theorem made_new {c : Cl} {B : BH} {b hm a k n : Nat} {ts : Ts} {st st' : Sto} (l : LB c B b hm a k n ts st) {m : Nat} {F : List Nat} (f : Fx F st st') (hF : ∀ j ∈ F, j = b ∨ st.length ≤ j) (hs : Spr st' b m) : LB c B b hm a k m ts st' := by
  have lo := l.bank.lo
  have m1 := ltOf l.md.top
  have m2 := ltOf l.md.made
  have m3 := ltOf l.md.sorts
  obtain ⟨n1, n2, n3, n4, n5⟩ := l.nb
  have no : ∀ j, j ≠ b → j < st.length → j ∉ F := fun j h1 h2 h3 => by
    rcases hF j h3 with h | h
    · exact h1 h
    · omega
  exact ⟨l.bank.fx f (no _ (Ne.symm n2) lo.1) (fun j hj => no _ (fun z => n1 (z ▸ hj)) (lo.2 j hj)), l.ok, l.md.fx f (no _ (Ne.symm n3) m1) (no _ (Ne.symm n4) m2) (no _ (Ne.symm n5) m3), hs, l.has, l.nb, l.nm⟩
theorem allI_nats (l : List Nat) : allI (dNs l) = some (l.map fun n : Nat => (n : Int)) := by
  induction l with
  | nil => rfl
  | cons a l ih => simp only [dNs, List.map_cons, allI] at ih ⊢; rw [ih]; rfl
theorem sorted_rng {n : Nat} {ys : List Int} (h : ys.Perm ((List.range n).map fun n : Nat => (n : Int))) (h2 : ys.Pairwise (· ≤ ·)) : ys = (List.range n).map fun n : Nat => (n : Int) := by
  refine List.Perm.eq_of_pairwise (le := (· ≤ ·)) (fun a b _ _ h1 h2 => Int.le_antisymm h1 h2) h2 ?_ h
  rw [List.pairwise_map]
  exact List.pairwise_lt_range.imp fun h => by omega
theorem mLstR_i {w : ME} {ρ : DEnv} {st : Sto} {R : DQ} {xq : XQ} (h : w ρ st (fun d st1 => onI d fun j => -(2 ^ 62) ≤ j ∧ j ≤ 16777216 ∧ R (.lst (rngD 0 j.toNat)) st1) xq) : mLstR w ρ st R xq := h
theorem set_back {st : Sto} {j : Nat} {x : Cell} (e : st[j]? = some x) : st.set j x = st := by
  apply List.ext_getElem?
  intro i
  by_cases q : j = i
  · subst q; rw [setSame e]; exact e.symm
  · rw [List.getElem?_set_ne q]
theorem keys_map {m : Nat → Nat} {os : List Nat} : ((mapD m os).map fun p => keyD p.1) = dNs os := by
  unfold mapD
  rw [List.map_map]
  rfl
theorem sem_law (c : Cl) : ∀ ds st R xq, splaw c ds st R xq → wlaw c (EndsOf R xq) (startD ["_law_script", "_law_reel_here", "_law_model", "_law_bank", "_law_k", "_law_other", "_law_there", "_law_term", "_law_again", "_law_node", "_law_word", "_law_parts", "_law_tags", "_law_part"] ds) st := by
  rintro ds st R xq ⟨ns, rfl, hns, k0⟩
  show wlaw c ⟨_, _, _, _, _⟩ [some (.scr (dIs ns)), none, none, none, none, none, none, none, none, none, none, none, none, none] st
  unfold wlaw
  walk_at "s"
  refine ⟨ns, rfl, hns, ?_⟩
  intro cell hcell
  generalize hb : st.length = b
  have spr1 : Spr (st ++ [cell]) b 0 := ⟨cell, by rw [← hb]; exact appN, hcell⟩
  generalize st ++ [cell] = st1 at spr1
  walk_at "s"
  refine ⟨b, 0, rfl, spr1, by omega, ?_⟩
  intro xs hm a k st2 hxl hnm hks hhs s2 l1 l2 l3 md
  have sl := spr1.lt
  have h2l := ltOf md.top
  have h3l := ltOf md.made
  have h4l := ltOf md.sorts
  walk_at "s"
  refine ⟨hm, a, k, xs, rfl, md, hnm, hks, by omega, ?_⟩
  intro B st3 hbk hbo f3 hBb hfp
  have L0 : LB c B b hm a k (0 + 100) (xs.map nmT) st3 := by
    refine ⟨hbk, hbo, md.fx f3 (by simp) (by simp) (by simp), s2.spr.fx f3 (by simp), ?_, ⟨fun z => by have := hfp _ z; omega, by omega, by omega, by omega, by omega⟩, ⟨fun z => by have := hfp _ z; omega, by omega, fun z => by have := hfp _ z; omega, by omega, fun z => by have := hfp _ z; omega, by omega⟩⟩
    rw [List.map_map]
    exact hhs
  walk_at "s"
  obtain ⟨N, hN, N1⟩ : ∃ N : Nat, (8 + if (40 : Int) < ((dIs ns).length : Nat) then (40 : Int) else ((dIs ns).length : Nat)) = (N : Int) ∧ N ≤ 48 := by
    by_cases q : (40 : Int) < ((dIs ns).length : Nat)
    · exact ⟨48, by rw [if_pos q]; rfl, by omega⟩
    · exact ⟨8 + (dIs ns).length, by rw [if_neg q]; omega, by omega⟩
  rw [hN]
  refine ⟨by omega, by omega, ?_⟩
  rw [Int.toNat_natCast]
  have hx7 : (xs.map nmT).length = 7 := by rw [List.length_map]; exact hxl
  refine forD_ind (fun zs ρ st' => ∃ (j lf : Nat) (ts : Ts) (e4 e9 : Option D), zs = rngD (j : Int) lf ∧ j + lf = N ∧ LB c B b hm a k (100 + 200 * j) ts st' ∧ 7 ≤ ts.length ∧ ts.length ≤ 7 + j ∧ ρ = [some (.scr (dIs ns)), some (.hdl b), some (.hdl hm), some (.hdl B.b), e4, none, none, none, none, e9, none, none, none, none]) ?_ ?_ _ _ _ ⟨0, N, xs.map nmT, none, none, rfl, by omega, L0, by omega, by omega, rfl⟩
  case refine_2 =>
    rintro y ys ρ st' K ⟨j, lf, ts, e4, e9, a1, a2, L, t1, t2, rfl⟩ hK
    cases lf with
    | zero => cases a1
    | succ lf =>
    rw [rngD_cons] at a1
    cases a1
    refine ⟨trivial, ?_⟩
    walk_at "s"
    refine ⟨b, _, hm, a, k, ts, rfl, L.spr, by omega, L.md, by omega, L.nb.2.2.1, L.nb.2.2.2.1, L.nb.2.2.2.2, fun i hi => L.ok.kind hi, L.has, ?_⟩
    intro w ps ms kd st6 gd s6
    have L3 := L.draw s6
    have nd : ∀ (st : Sto) (k : DQ) (i : Int) (d : D), atI [D.str w, .tup (dNs ps), .tup (dIs ms)] i = some d → k d st → dIx (Nd.ap w ps ms).d (.int i) st k := fun st k i d e h => dIx_t e h
    walk_at "s"
    refine ⟨L3.bank.is, ?_⟩
    walk_at "s"
    refine nd _ _ _ _ at0 ?_
    walk_at "s"
    refine nd _ _ _ _ at1 ?_
    walk_at "s"
    refine nd _ _ _ _ at2 ?_
    walk_at "s"
    refine ⟨rfl, rfl, ?_⟩
    refine ⟨B, ts, w, .tup (dNs ps), .tup (dIs ms), ps, ms, kd, rfl, L3.bank, L3.ok, by omega, .inr (.inl rfl), .inr (.inl rfl), by have := gd.2.2.2.2.1; omega, by have := gd.2.2.2.2.2; omega, gd.2.1, gd.2.2.1, ?_⟩
    intro i ts' st7 e2 hb2 ho2 f2
    walk_at "s"
    have md2 := L3.md.fx f2 L3.nm.1 L3.nm.2.2.1 L3.nm.2.2.2.2.1
    refine ⟨hm, a, k, ts, w, ps, ms, kd, rfl, md2, by omega, fun i hi => L3.ok.kind hi, L3.ok.txt, gd, ?_⟩
    intro i' ts'' st8 e3 md3 f3
    have e4 := e2.symm.trans e3
    cases e4
    obtain ⟨c1, c2, _⟩ := bput_kind e2
    refine ifF (by simp [xorB]) ?_
    walk_at "s"
    exact hK _ _ ⟨j + 1, lf, ts', _, _, by simp, by omega, (L3.put e2 hb2 ho2 f2 md3 f3).up (by omega), by omega, by omega, rfl⟩
  rintro ρ st' ⟨j, lf, ts, e4, e9, a1, a2, L, t1, t2, rfl⟩
  refine ⟨trivial, ?_⟩
  have jn : j ≤ 48 := by omega
  clear a1 a2
  walk_at "s"
  refine ⟨st'.length, rfl, appN, ?_⟩
  intro st4 f4 hb4 l4
  refine ⟨rfl, ?_⟩
  obtain ⟨B2, hB⟩ : ∃ B : BH, B = ⟨st'.length, (st' ++ [Cell.ins c.Bank []]).length, (st' ++ [Cell.ins c.Bank []]).length + 1, (st' ++ [Cell.ins c.Bank []]).length + 2, (st' ++ [Cell.ins c.Bank []]).length + 3⟩ := ⟨_, rfl⟩
  rw [← hB] at hb4
  have hBb2 : B2.b = st'.length := by rw [hB]
  rw [← hBb2]
  have hfp2 : ∀ k ∈ B2.fp, st'.length < k := by
    intro k hk
    rw [hB] at hk
    simp [BH.fp] at hk
    omega
  have g4 : Fx [] st' st4 := (Fx.refl.app (c := Cell.ins c.Bank [])).far f4 (by intro k hk; simp at hk; omega)
  have L4 := L.fx0 g4
  walk_at "s"
  refine ⟨b, _, hm, a, k, ts, rfl, L4.spr, by omega, L4.md, L4.ok, by omega, L4.nb.2.2.1, L4.nb.2.2.2.1, L4.nb.2.2.2.2, ?_⟩
  intro os h st5 oo s5 hh hos
  have L5 := L4.draw s5
  have hlo4 := hb4.lo
  have sb4 := L4.spr.lt
  have sb' := L.spr.lt
  have hb5 : BankAt c B2 [] st5 := hb4.fx s5.fx (by simp; omega) (fun k hk => by have := hfp2 k hk; simp; omega)
  walk_at "s"
  have hm4 := ltOf L.md.top
  have ha4 := ltOf L.md.made
  have hk4 := ltOf L.md.sorts
  refine ⟨B2, hm, a, k, ts, .hdl h, os, S1 ts os (pos os), pos os, rfl, hb5, bank0, L5.md, L5.ok, by omega, ⟨fun z => by have := hfp2 _ z; omega, fun z => by have := hfp2 _ z; omega, fun z => by have := hfp2 _ z; omega⟩, oo, .inr (.inr ⟨h, fun z => by have := hlo4.2 _ z; omega, rfl, hos⟩), ?_, fun i t e => step1 L5.ok oo e, ?_⟩
  · intro i
    have := oo.perm.length_eq
    rw [List.length_range] at this
    unfold S1
    rw [List.length_map, List.length_take]
    omega
  intro th st6 hb6 ho6 f6 hth dth
  have sl5 := s5.len
  have f06 : Fx (b :: B2.fp) st' st6 := ((g4.mono (F' := b :: B2.fp) (by simp)).trans s5.fx (fun k hk => by simp at hk; subst hk; exact .inl (by simp))).trans f6 (fun k hk => .inl (List.mem_cons_of_mem _ hk))
  have L6 : LB c B b hm a k (100 + 200 * j + 100) ts st6 := made_new L f06 (fun k hk => by
    rcases List.mem_cons.mp hk with rfl | hk
    · exact .inl rfl
    · have := hfp2 k hk; exact .inr (by omega)) (s5.spr.fx f6 (fun z => by have := hfp2 _ z; omega))
  have onl := oo.perm.length_eq
  rw [List.length_range] at onl
  obtain ⟨T2, hT2⟩ : ∃ T2 : Ts, T2 = S1 ts os (pos os) os.length := ⟨_, rfl⟩
  have T2l : T2.length = ts.length := by rw [hT2, S1_len (Nat.le_refl _), onl]
  rw [← hT2] at hb6 ho6
  walk_at "s"
  refine dLenO_i hb6.is ?_
  refine ⟨B2, T2, rfl, hb6, by omega, ?_⟩
  refine ⟨by omega, by omega, ?_⟩
  walk_at "s"
  refine dLenO_i L6.bank.is ?_
  refine ⟨B, ts, rfl, L6.bank, by omega, ?_⟩
  refine ⟨by omega, by omega, ?_⟩
  walk_at "s"
  refine ifF (by simp [xorB, T2l]) ?_
  walk_at "s"
  refine mLockE_i dth fun o us => ?_
  have hq : (st6.set th (.fK o us (mapD (pos os) os)))[th]? = some (.fK o us (mapD (pos os) os)) := setSame dth
  walk_at "s"
  refine ⟨th, o, us, _, rfl, hq, ?_⟩
  rw [keys_map]
  refine lcD_ind (fun xs acc st' => st' = st6.set th (.fK o us (mapD (pos os) os)) ∧ ∃ dn lf : List Nat, os = dn ++ lf ∧ xs = dNs lf ∧ acc = dNs (dn.map (pos os))) ?_ ?_ _ _ _ ⟨rfl, [], os, rfl, rfl, rfl⟩
  case refine_2 =>
    rintro y ys acc st2 K ⟨e0, dn, lf, c1, c2, rfl⟩ hK
    cases lf with
    | nil => cases c2
    | cons t lf =>
    cases c2
    subst e0
    have hl2 := congrArg List.length c1
    simp at hl2
    refine ⟨hq, ?_⟩
    walk_at "s"
    refine dIxF_h hq (key := .inl (t : Int)) rfl (valD_map (by rw [c1]; simp)) ?_
    exact ⟨by simp only [List.length_map, sizeLine]; omega, hK _ _ ⟨rfl, dn ++ [t], lf, by rw [c1]; simp, rfl, by simp [dNs]⟩⟩
  rintro acc st2 ⟨rfl, dn, lf, c1, c2, rfl⟩
  refine ⟨hq, hq, ?_⟩
  rw [List.set_set, set_back dth]
  cases lf with
  | cons v lf => cases c2
  | nil =>
  rw [List.append_nil] at c1
  subst c1
  clear c2
  rw [pos_all oo]
  walk_at "s"
  refine dSortI_l (allI_nats _) ?_
  intro ys hy1 hy2
  have hys := sorted_rng hy1 hy2
  subst hys
  clear hy1 hy2
  walk_at "s"
  refine mLstR_i ?_
  walk_at "s"
  refine dLenO_i L6.bank.is ?_
  refine ⟨B, ts, rfl, L6.bank, by omega, ?_⟩
  refine ⟨by omega, by omega, ?_⟩
  refine ⟨by omega, by omega, ?_⟩
  rw [Int.toNat_natCast, rng_nats, show dNs (List.range ts.length) = dIs ((List.range ts.length).map fun n : Nat => (n : Int)) by simp [dNs, dIs]]
  refine dEQ_li ?_
  refine ifF (by simp [xorB]) ?_
  walk_at "s"
  refine dLenO_i L6.bank.is ?_
  refine ⟨B, ts, rfl, L6.bank, by omega, ?_⟩
  refine ⟨by omega, by omega, ?_⟩
  refine ⟨by omega, by omega, ?_⟩
  rw [Int.toNat_natCast]
  refine forD_ind (fun zs ρ st' => ∃ (j lf : Nat) (e7 e10 e11 e12 : Option D), zs = rngD (j : Int) lf ∧ j + lf = ts.length ∧ st' = st6 ∧ ρ = [some (.scr (dIs ns)), some (.hdl b), some (.hdl hm), some (.hdl B.b), e4, some (.hdl B2.b), some (.hdl th), e7, none, e9, e10, e11, e12, none]) ?_ ?_ _ _ _ ⟨0, ts.length, none, none, none, none, rfl, by omega, rfl, rfl⟩
  case refine_2 =>
    rintro y ys ρ st9 K ⟨j', lf, e7, e10, e11, e12, a1, a2, rfl, rfl⟩ hK
    cases lf with
    | zero => cases a1
    | succ lf =>
    rw [rngD_cons] at a1
    cases a1
    have hj : j' < ts.length := by omega
    have hjo := oo.has hj
    have ht : ts[j']? = some ts[j'] := List.getElem?_eq_getElem hj
    generalize ts[j'] = tt at ht
    obtain ⟨nd, kd⟩ := tt
    have hnt : ndAt ts j' = some nd := by unfold ndAt; rw [ht]; rfl
    have hT : T2[pos os j']? = some (remap (pos os) nd, kindAt ts j') := by
      rw [hT2, S1_get (pos_lt hjo) (pos_get hjo), ndD_at hnt]
    have hTl := ltOf hT
    have hTk : kindAt T2 (pos os j') = kindAt ts j' := by unfold kindAt; rw [hT]; rfl
    have htx : ndTxt (remap (pos os) nd) := by
      have := L6.ok.txt (nd, kd) (List.mem_of_getElem? ht)
      cases nd <;> exact this
    have hpi := part_in L6.ok oo hnt
    have hpf := parts_few L6.ok hnt
    refine ⟨trivial, ?_⟩
    walk_at "s"
    refine ⟨L6.bank.is, ?_⟩
    walk_at "s"
    refine ⟨B, ts, j', (nd, kd), rfl, L6.bank, ht, ?_⟩
    cases nd with
    | nm x q =>
      refine ⟨rfl, ?_⟩
      walk_at "s"
      refine ⟨rfl, ?_⟩
      walk_at "s"
      refine ⟨hb6.is, ?_⟩
      walk_at "s"
      refine dIx_k dth rfl (valD_map hjo) ?_
      walk_at "s"
      refine ⟨B2, T2, pos os j', _, rfl, hb6, hT, ?_⟩
      walk_at "s"
      refine lcD_n trivial ?_
      walk_at "s"
      refine dEQ_self (d := (Nd.nm x q).d) (nd_py _) (nd_shaped htx) ?_
      walk_at "s"
      refine ⟨hb6.is, ?_⟩
      walk_at "s"
      refine dIx_k dth rfl (valD_map hjo) ?_
      walk_at "s"
      refine ⟨B2, T2, pos os j', rfl, hb6, hTl, ?_⟩
      walk_at "s"
      refine ⟨L6.bank.is, ?_⟩
      walk_at "s"
      refine ⟨B, ts, j', rfl, L6.bank, hj, ?_⟩
      rw [hTk]
      refine dEQ_kd ?_
      refine ifF (by simp [xorB]) ?_
      walk_at "s"
      exact hK _ _ ⟨j' + 1, lf, _, _, _, _, by simp, by omega, rfl, rfl⟩
    | ap w ps ms =>
      refine ⟨rfl, ?_⟩
      walk_at "s"
      refine ⟨rfl, ?_⟩
      walk_at "s"
      refine ⟨hb6.is, ?_⟩
      walk_at "s"
      refine dIx_k dth rfl (valD_map hjo) ?_
      walk_at "s"
      refine ⟨B2, T2, pos os j', _, rfl, hb6, hT, ?_⟩
      walk_at "s"
      refine lcD_ind (fun ys acc st2 => st2 = st9 ∧ ∃ pd pf : List Nat, ps = pd ++ pf ∧ ys = dNs pf ∧ acc = dNs (pd.map (pos os))) ?_ ?_ _ _ _ ⟨rfl, [], ps, rfl, rfl, rfl⟩
      case refine_2 =>
        rintro y ys acc st2 K2 ⟨e0, pd, pf, c1, c2, rfl⟩ hK2
        cases pf with
        | nil => cases c2
        | cons p pf =>
        cases c2
        have dth' : st2[th]? = some (Cell.dK (mapD (pos os) os)) := by rw [e0]; exact dth
        have hl2 := congrArg List.length c1
        simp at hl2
        have hpf' : ps.length ≤ 1000 := hpf
        refine ⟨trivial, ?_⟩
        walk_at "s"
        refine dIx_k dth' rfl (valD_map (hpi p (by show p ∈ ps; rw [c1]; simp))) ?_
        exact ⟨by simp only [List.length_map, sizeLine]; omega, hK2 _ _ ⟨e0, pd ++ [p], pf, by rw [c1]; simp, rfl, by simp [dNs]⟩⟩
      rintro acc st2 ⟨e0, pd, pf, c1, c2, rfl⟩
      refine ⟨trivial, ?_⟩
      cases pf with
      | cons v lf => cases c2
      | nil =>
      rw [List.append_nil] at c1
      subst c1
      clear c2
      subst e0
      walk_at "s"
      refine dEQ_self (d := (Nd.ap w (ps.map (pos os)) ms).d) (nd_py _) (nd_shaped htx) ?_
      walk_at "s"
      refine ⟨hb6.is, ?_⟩
      walk_at "s"
      refine dIx_k dth rfl (valD_map hjo) ?_
      walk_at "s"
      refine ⟨B2, T2, pos os j', rfl, hb6, hTl, ?_⟩
      walk_at "s"
      refine ⟨L6.bank.is, ?_⟩
      walk_at "s"
      refine ⟨B, ts, j', rfl, L6.bank, hj, ?_⟩
      rw [hTk]
      refine dEQ_kd ?_
      refine ifF (by simp [xorB]) ?_
      walk_at "s"
      exact hK _ _ ⟨j' + 1, lf, _, _, _, _, by simp, by omega, rfl, rfl⟩
  rintro ρ st9 ⟨j', lf, e7, e10, e11, e12, a1, a2, rfl, rfl⟩
  refine ⟨trivial, ?_⟩
  clear a1 a2
  walk_at "s"
  refine mLstR_i ?_
  walk_at "s"
  refine dLenO_i L6.bank.is ?_
  refine ⟨B, ts, rfl, L6.bank, by omega, ?_⟩
  refine ⟨by omega, by omega, ?_⟩
  refine ⟨by omega, by omega, ?_⟩
  rw [Int.toNat_natCast, rng_nats]
  refine ⟨B, hm, a, k, ts, .lst (dNs (List.range ts.length)), List.range ts.length, fun _ => ts, id, rfl, L6.bank, L6.ok, L6.md, L6.ok, by omega, ⟨L6.nm.1, L6.nm.2.2.1, L6.nm.2.2.2.2.1⟩, ord_id L6.ok, .inl rfl, fun i => by show ts.length ≤ 200; omega, fun i t e => step2 L6.ok, ?_⟩
  intro th2 st7 hb7 ho7 f7 hth2 dth2
  walk_at "s"
  refine mLockE_i dth2 fun o us => ?_
  have hq : (st7.set th2 (.fK o us (mapD id (List.range ts.length))))[th2]? = some (.fK o us (mapD id (List.range ts.length))) := setSame dth2
  walk_at "s"
  refine ⟨th2, o, us, _, rfl, hq, ?_⟩
  rw [keys_map]
  refine lcD_ind (fun xs acc st' => st' = st7.set th2 (.fK o us (mapD id (List.range ts.length))) ∧ ∃ dn lf : List Nat, List.range ts.length = dn ++ lf ∧ xs = dNs lf ∧ acc = []) ?_ ?_ _ _ _ ⟨rfl, [], _, rfl, rfl, rfl⟩
  case refine_2 =>
    rintro y ys acc st2 K ⟨e0, dn, lf, c1, c2, rfl⟩ hK
    cases lf with
    | nil => cases c2
    | cons t lf =>
    cases c2
    subst e0
    refine ⟨hq, ?_⟩
    walk_at "s"
    refine dIxF_h hq (key := .inl (t : Int)) rfl (valD_map (by rw [c1]; simp)) ?_
    walk_at "s"
    refine ifF (by simp [xorB]) ?_
    exact hK _ _ ⟨rfl, dn ++ [t], lf, by rw [c1]; simp, rfl, rfl⟩
  rintro acc st2 ⟨rfl, dn, lf, c1, c2, rfl⟩
  refine ⟨hq, hq, ?_⟩
  walk_at "s"
  refine dEQ_ln (l := []) ?_
  exact k0 _

theorem FnD.mkF {P : Program} {w : World} {G : Gm} {mg : Str → Option Value} {base : Heap} {x qual : Str} {params : Arguments} {body : List Stmt} {scope : Scope} {dvs : List V} {kws : List (Str × V)} {f : Addr} {fd : FuncData} {N ps : List Str} {k : Nat} {dsp : DSp} {b : MS} (F : FunD G.K x qual params body scope dvs kws f fd) (S : FnScope N ps scope) (len : ∀ ds st R xq, dsp ds st R xq → ds.length = ps.length)
    (der : ∀ (cdv : Value) (A : Around) (outer : List Env) (s : Shared) (H : Hp) (E : XK), Room k (A.deeper (envOfC qual scope s.heap.objs.size f cdv)) → PDSs G E (cxOf CX0 P w G.K mg base N qual scope f cdv A outer s H E).nox body b)
    (sem : ∀ ds st R xq, dsp ds st R xq → b ⟨fun _ st' => R .non st', R, fun _ _ => False, fun _ _ => False, xq⟩ (startD N ds) st) : FnD P w G mg base CX0 (k + 1) f fd ps dsp := by
  unfold FnD
  refine F.ok S (fun vs H Q E h => ?_) (fun cdv A outer s H vs Q E hr h => ⟨_, PSs.nox (der cdv A outer s H E hr), ?_⟩)
  · obtain ⟨W, ds, st, R, xq, rel, rl, hsp, o⟩ := h
    rw [rl.length]; exact len ds st R xq hsp
  · obtain ⟨W, ds, st, R, xq, rel, rl, hsp, o⟩ := h
    exact ⟨W, startD N ds, st, _, rel, start_rp rl, sem ds st R xq hsp, ⟨fun W1 H1 ρ1 σ1 st1 l1 rel1 re1 w1 => o.rt W1 H1 .non .non st1 l1 rel1 rfl w1, fun _ _ _ _ _ _ _ _ z => z.elim, fun _ _ _ _ _ _ _ _ z => z.elim, o.rt, o.xq⟩⟩
theorem sem_of {α : Prop} (h : α) : α := h
theorem fnis_whole {P : Program} {w : World} {G : Gm} {mg : Str → Option Value} {base : Heap} {c : Cl} (hW : G.w = w) (B : Bl mg) (T : ClD G mg c)  {f : Addr} {fd : FuncData} (F : Fun G.K "is_whole" "is_whole" stis_whole f fd) : FnD P w G mg base CX0 1 f fd ["thing", "least", "most"] (spis_whole c) := by
  refine FnD.mk F scis_whole ?_ (fun cdv A outer s H E hr => deis_whole hW B T  cdv A outer s H E hr) (sem_of (sem_is_whole c))
  intro ds st R xq h
  unfold spis_whole at h
  repeat (first | (obtain ⟨rfl, _⟩ := h; rfl) | (obtain ⟨_, h⟩ := h))
theorem fnas_kind {P : Program} {w : World} {G : Gm} {mg : Str → Option Value} {base : Heap} {c : Cl} (hW : G.w = w) (B : Bl mg) (T : ClD G mg c) (Fis_whole : Cal P w G mg base 1 "is_whole" (spis_whole c)) {f : Addr} {fd : FuncData} (F : Fun G.K "as_kind" "as_kind" stas_kind f fd) : FnD P w G mg base CX0 2 f fd ["thing"] (spas_kind c) := by
  refine FnD.mk F scas_kind ?_ (fun cdv A outer s H E hr => deas_kind hW B T Fis_whole cdv A outer s H E hr) (sem_of (sem_as_kind c))
  intro ds st R xq h
  unfold spas_kind at h
  repeat (first | (obtain ⟨rfl, _⟩ := h; rfl) | (obtain ⟨_, h⟩ := h))
theorem fnof_nothing {P : Program} {w : World} {G : Gm} {mg : Str → Option Value} {base : Heap} {c : Cl} (hW : G.w = w) (B : Bl mg) (T : ClD G mg c)  {f : Addr} {fd : FuncData} (F : Fun G.K "of_nothing" "of_nothing" stof_nothing f fd) : FnD P w G mg base CX0 1 f fd ["kinds", "marks"] (spof_nothing c) := by
  refine FnD.mk F scof_nothing ?_ (fun cdv A outer s H E hr => deof_nothing hW B T  cdv A outer s H E hr) (sem_of (sem_of_nothing c))
  intro ds st R xq h
  unfold spof_nothing at h
  repeat (first | (obtain ⟨rfl, _⟩ := h; rfl) | (obtain ⟨_, h⟩ := h))
theorem fnof_marks {P : Program} {w : World} {G : Gm} {mg : Str → Option Value} {base : Heap} {c : Cl} (hW : G.w = w) (B : Bl mg) (T : ClD G mg c) (Fis_whole : Cal P w G mg base 1 "is_whole" (spis_whole c)) {f : Addr} {fd : FuncData} (F : Fun G.K "of_marks" "of_marks" stof_marks f fd) : FnD P w G mg base CX0 2 f fd ["kinds", "marks"] (spof_marks c) := by
  refine FnD.mk F scof_marks ?_ (fun cdv A outer s H E hr => deof_marks hW B T Fis_whole cdv A outer s H E hr) (sem_of (sem_of_marks c))
  intro ds st R xq h
  unfold spof_marks at h
  repeat (first | (obtain ⟨rfl, _⟩ := h; rfl) | (obtain ⟨_, h⟩ := h))
theorem fnof_truth {P : Program} {w : World} {G : Gm} {mg : Str → Option Value} {base : Heap} {c : Cl} (hW : G.w = w) (B : Bl mg) (T : ClD G mg c)  {f : Addr} {fd : FuncData} (F : Fun G.K "of_truth" "of_truth" stof_truth f fd) : FnD P w G mg base CX0 1 f fd ["kinds", "marks"] (spof_truth c) := by
  refine FnD.mk F scof_truth ?_ (fun cdv A outer s H E hr => deof_truth hW B T  cdv A outer s H E hr) (sem_of (sem_of_truth c))
  intro ds st R xq h
  unfold spof_truth at h
  repeat (first | (obtain ⟨rfl, _⟩ := h; rfl) | (obtain ⟨_, h⟩ := h))
theorem fnof_truths {P : Program} {w : World} {G : Gm} {mg : Str → Option Value} {base : Heap} {c : Cl} (hW : G.w = w) (B : Bl mg) (T : ClD G mg c)  {f : Addr} {fd : FuncData} (F : Fun G.K "of_truths" "of_truths" stof_truths f fd) : FnD P w G mg base CX0 1 f fd ["kinds", "marks"] (spof_truths c) := by
  refine FnD.mk F scof_truths ?_ (fun cdv A outer s H E hr => deof_truths hW B T  cdv A outer s H E hr) (sem_of (sem_of_truths c))
  intro ds st R xq h
  unfold spof_truths at h
  repeat (first | (obtain ⟨rfl, _⟩ := h; rfl) | (obtain ⟨_, h⟩ := h))
theorem fnof_alike {P : Program} {w : World} {G : Gm} {mg : Str → Option Value} {base : Heap} {c : Cl} (hW : G.w = w) (B : Bl mg) (T : ClD G mg c)  {f : Addr} {fd : FuncData} (F : Fun G.K "of_alike" "of_alike" stof_alike f fd) : FnD P w G mg base CX0 1 f fd ["kinds", "marks"] (spof_alike c) := by
  refine FnD.mk F scof_alike ?_ (fun cdv A outer s H E hr => deof_alike hW B T  cdv A outer s H E hr) (sem_of (sem_of_alike c))
  intro ds st R xq h
  unfold spof_alike at h
  repeat (first | (obtain ⟨rfl, _⟩ := h; rfl) | (obtain ⟨_, h⟩ := h))
theorem fnof_words {P : Program} {w : World} {G : Gm} {mg : Str → Option Value} {base : Heap} {c : Cl} (hW : G.w = w) (B : Bl mg) (T : ClD G mg c) (Fof_alike : Cal P w G mg base 1 "of_alike" (spof_alike c)) {f : Addr} {fd : FuncData} (F : Fun G.K "of_words" "of_words" stof_words f fd) : FnD P w G mg base CX0 2 f fd ["kinds", "marks"] (spof_words c) := by
  refine FnD.mk F scof_words ?_ (fun cdv A outer s H E hr => deof_words hW B T Fof_alike cdv A outer s H E hr) (sem_of (sem_of_words c))
  intro ds st R xq h
  unfold spof_words at h
  repeat (first | (obtain ⟨rfl, _⟩ := h; rfl) | (obtain ⟨_, h⟩ := h))
theorem fnof_less {P : Program} {w : World} {G : Gm} {mg : Str → Option Value} {base : Heap} {c : Cl} (hW : G.w = w) (B : Bl mg) (T : ClD G mg c) (Fof_words : Cal P w G mg base 2 "of_words" (spof_words c)) {f : Addr} {fd : FuncData} (F : Fun G.K "of_less" "of_less" stof_less f fd) : FnD P w G mg base CX0 3 f fd ["kinds", "marks"] (spof_less c) := by
  refine FnD.mk F scof_less ?_ (fun cdv A outer s H E hr => deof_less hW B T Fof_words cdv A outer s H E hr) (sem_of (sem_of_less c))
  intro ds st R xq h
  unfold spof_less at h
  repeat (first | (obtain ⟨rfl, _⟩ := h; rfl) | (obtain ⟨_, h⟩ := h))
theorem fnof_choice {P : Program} {w : World} {G : Gm} {mg : Str → Option Value} {base : Heap} {c : Cl} (hW : G.w = w) (B : Bl mg) (T : ClD G mg c) (Fof_alike : Cal P w G mg base 1 "of_alike" (spof_alike c)) {f : Addr} {fd : FuncData} (F : Fun G.K "of_choice" "of_choice" stof_choice f fd) : FnD P w G mg base CX0 2 f fd ["kinds", "marks"] (spof_choice c) := by
  refine FnD.mk F scof_choice ?_ (fun cdv A outer s H E hr => deof_choice hW B T Fof_alike cdv A outer s H E hr) (sem_of (sem_of_choice c))
  intro ds st R xq h
  unfold spof_choice at h
  repeat (first | (obtain ⟨rfl, _⟩ := h; rfl) | (obtain ⟨_, h⟩ := h))
theorem fnof_word {P : Program} {w : World} {G : Gm} {mg : Str → Option Value} {base : Heap} {c : Cl} (hW : G.w = w) (B : Bl mg) (T : ClD G mg c)  {f : Addr} {fd : FuncData} (F : Fun G.K "of_word" "of_word" stof_word f fd) : FnD P w G mg base CX0 1 f fd ["kinds", "marks"] (spof_word c) := by
  refine FnD.mk F scof_word ?_ (fun cdv A outer s H E hr => deof_word hW B T  cdv A outer s H E hr) (sem_of (sem_of_word c))
  intro ds st R xq h
  unfold spof_word at h
  repeat (first | (obtain ⟨rfl, _⟩ := h; rfl) | (obtain ⟨_, h⟩ := h))
theorem fnof_joined {P : Program} {w : World} {G : Gm} {mg : Str → Option Value} {base : Heap} {c : Cl} (hW : G.w = w) (B : Bl mg) (T : ClD G mg c)  {f : Addr} {fd : FuncData} (F : Fun G.K "of_joined" "of_joined" stof_joined f fd) : FnD P w G mg base CX0 1 f fd ["kinds", "marks"] (spof_joined c) := by
  refine FnD.mk F scof_joined ?_ (fun cdv A outer s H E hr => deof_joined hW B T  cdv A outer s H E hr) (sem_of (sem_of_joined c))
  intro ds st R xq h
  unfold spof_joined at h
  repeat (first | (obtain ⟨rfl, _⟩ := h; rfl) | (obtain ⟨_, h⟩ := h))
theorem fnof_cut {P : Program} {w : World} {G : Gm} {mg : Str → Option Value} {base : Heap} {c : Cl} (hW : G.w = w) (B : Bl mg) (T : ClD G mg c) (Fof_word : Cal P w G mg base 1 "of_word" (spof_word c)) (Fis_whole : Cal P w G mg base 1 "is_whole" (spis_whole c)) {f : Addr} {fd : FuncData} (F : Fun G.K "of_cut" "of_cut" stof_cut f fd) : FnD P w G mg base CX0 2 f fd ["kinds", "marks"] (spof_cut c) := by
  refine FnD.mk F scof_cut ?_ (fun cdv A outer s H E hr => deof_cut hW B T Fof_word Fis_whole cdv A outer s H E hr) (sem_of (sem_of_cut c))
  intro ds st R xq h
  unfold spof_cut at h
  repeat (first | (obtain ⟨rfl, _⟩ := h; rfl) | (obtain ⟨_, h⟩ := h))
theorem fnof_read {P : Program} {w : World} {G : Gm} {mg : Str → Option Value} {base : Heap} {c : Cl} (hW : G.w = w) (B : Bl mg) (T : ClD G mg c)  {f : Addr} {fd : FuncData} (F : Fun G.K "of_read" "of_read" stof_read f fd) : FnD P w G mg base CX0 1 f fd ["kinds", "marks"] (spof_read c) := by
  refine FnD.mk F scof_read ?_ (fun cdv A outer s H E hr => deof_read hW B T  cdv A outer s H E hr) (sem_of (sem_of_read c))
  intro ds st R xq h
  unfold spof_read at h
  repeat (first | (obtain ⟨rfl, _⟩ := h; rfl) | (obtain ⟨_, h⟩ := h))
theorem fnof_written {P : Program} {w : World} {G : Gm} {mg : Str → Option Value} {base : Heap} {c : Cl} (hW : G.w = w) (B : Bl mg) (T : ClD G mg c) (Fof_read : Cal P w G mg base 1 "of_read" (spof_read c)) {f : Addr} {fd : FuncData} (F : Fun G.K "of_written" "of_written" stof_written f fd) : FnD P w G mg base CX0 2 f fd ["kinds", "marks"] (spof_written c) := by
  refine FnD.mk F scof_written ?_ (fun cdv A outer s H E hr => deof_written hW B T Fof_read cdv A outer s H E hr) (sem_of (sem_of_written c))
  intro ds st R xq h
  unfold spof_written at h
  repeat (first | (obtain ⟨rfl, _⟩ := h; rfl) | (obtain ⟨_, h⟩ := h))
theorem fnkind_by {P : Program} {w : World} {G : Gm} {mg : Str → Option Value} {base : Heap} {c : Cl} (hW : G.w = w) (B : Bl mg) (T : ClD G mg c) (ARULES : ∀ q ∈ cbRULES c, CalT P w G mg base 3 q.1 q.2) {f : Addr} {fd : FuncData} (F : Fun G.K "kind_by" "kind_by" stkind_by f fd) : FnD P w G mg base CX0 4 f fd ["word", "kinds", "marks"] (spkind_by c) := by
  refine FnD.mk F sckind_by ?_ (fun cdv A outer s H E hr => dekind_by hW B T ARULES cdv A outer s H E hr) (sem_of (sem_kind_by c))
  intro ds st R xq h
  unfold spkind_by at h
  repeat (first | (obtain ⟨rfl, _⟩ := h; rfl) | (obtain ⟨_, h⟩ := h))
theorem fnis_name {P : Program} {w : World} {G : Gm} {mg : Str → Option Value} {base : Heap} {c : Cl} (hW : G.w = w) (B : Bl mg) (T : ClD G mg c)  {f : Addr} {fd : FuncData} (F : Fun G.K "is_name" "is_name" stis_name f fd) : FnD P w G mg base CX0 1 f fd ["text"] (spis_name c) := by
  refine FnD.mk F scis_name ?_ (fun cdv A outer s H E hr => deis_name hW B T  cdv A outer s H E hr) (sem_of (sem_is_name c))
  intro ds st R xq h
  unfold spis_name at h
  repeat (first | (obtain ⟨rfl, _⟩ := h; rfl) | (obtain ⟨_, h⟩ := h))
theorem fnneed_term {P : Program} {w : World} {G : Gm} {mg : Str → Option Value} {base : Heap} {c : Cl} (hW : G.w = w) (B : Bl mg) (T : ClD G mg c) (Fis_whole : Cal P w G mg base 1 "is_whole" (spis_whole c)) {f : Addr} {fd : FuncData} (F : Fun G.K "need_term" "need_term" stneed_term f fd) : FnD P w G mg base CX0 2 f fd ["bank", "term"] (spneed_term c) := by
  refine FnD.mk F scneed_term ?_ (fun cdv A outer s H E hr => deneed_term hW B T Fis_whole cdv A outer s H E hr) (sem_of (sem_need_term c))
  intro ds st R xq h
  unfold spneed_term at h
  repeat (first | (obtain ⟨rfl, _⟩ := h; rfl) | (obtain ⟨_, h⟩ := h))
theorem fnput_in {P : Program} {w : World} {G : Gm} {mg : Str → Option Value} {base : Heap} {c : Cl} (hW : G.w = w) (B : Bl mg) (T : ClD G mg c)  {f : Addr} {fd : FuncData} (F : Fun G.K "put_in" "put_in" stput_in f fd) : FnD P w G mg base CX0 1 f fd ["bank", "made", "sort"] (spput_in c) := by
  refine FnD.mk F scput_in ?_ (fun cdv A outer s H E hr => deput_in hW B T  cdv A outer s H E hr) (sem_of (sem_put_in c))
  intro ds st R xq h
  unfold spput_in at h
  repeat (first | (obtain ⟨rfl, _⟩ := h; rfl) | (obtain ⟨_, h⟩ := h))
theorem fnBank_DinitD {P : Program} {w : World} {G : Gm} {mg : Str → Option Value} {base : Heap} {c : Cl} (hW : G.w = w) (B : Bl mg) (T : ClD G mg c)  {f : Addr} {fd : FuncData} (F : Fun G.K "__init__" "Bank.__init__" stBank_DinitD f fd) : FnD P w G mg base CX0 1 f fd ["self"] (spBank_DinitD c) := by
  refine FnD.mk F scBank_DinitD ?_ (fun cdv A outer s H E hr => deBank_DinitD hW B T  cdv A outer s H E hr) (sem_of (sem_Bank_DinitD c))
  intro ds st R xq h
  unfold spBank_DinitD at h
  repeat (first | (obtain ⟨rfl, _⟩ := h; rfl) | (obtain ⟨_, h⟩ := h))
theorem fnBank_make {P : Program} {w : World} {G : Gm} {mg : Str → Option Value} {base : Heap} {c : Cl} (hW : G.w = w) (B : Bl mg) (T : ClD G mg c) (Fneed_term : Cal P w G mg base 2 "need_term" (spneed_term c)) (Fkind_by : Cal P w G mg base 4 "kind_by" (spkind_by c)) (Fput_in : Cal P w G mg base 1 "put_in" (spput_in c)) {f : Addr} {fd : FuncData} {dvs : List V} {kws : List (Str × V)} (F : FunD G.K "make" "Bank.make" (defArgs stBank_make) (defBody stBank_make) (defScope stBank_make) dvs kws f fd) : FnD P w G mg base CX0 5 f fd ["self", "word", "parts", "marks"] (spBank_make c) := by
  refine FnD.mkF F scBank_make ?_ (fun cdv A outer s H E hr => deBank_make hW B T Fneed_term Fkind_by Fput_in cdv A outer s H E hr) (sem_of (sem_Bank_make c))
  intro ds st R xq h
  unfold spBank_make at h
  repeat (first | (obtain ⟨rfl, _⟩ := h; rfl) | (obtain ⟨_, h⟩ := h))
theorem fnBank_name {P : Program} {w : World} {G : Gm} {mg : Str → Option Value} {base : Heap} {c : Cl} (hW : G.w = w) (B : Bl mg) (T : ClD G mg c) (Fas_kind : Cal P w G mg base 2 "as_kind" (spas_kind c)) (Fis_name : Cal P w G mg base 1 "is_name" (spis_name c)) (Fput_in : Cal P w G mg base 1 "put_in" (spput_in c)) {f : Addr} {fd : FuncData} (F : Fun G.K "name" "Bank.name" stBank_name f fd) : FnD P w G mg base CX0 3 f fd ["self", "text", "kind"] (spBank_name c) := by
  refine FnD.mk F scBank_name ?_ (fun cdv A outer s H E hr => deBank_name hW B T Fas_kind Fis_name Fput_in cdv A outer s H E hr) (sem_of (sem_Bank_name c))
  intro ds st R xq h
  unfold spBank_name at h
  repeat (first | (obtain ⟨rfl, _⟩ := h; rfl) | (obtain ⟨_, h⟩ := h))
theorem fnBank_kind {P : Program} {w : World} {G : Gm} {mg : Str → Option Value} {base : Heap} {c : Cl} (hW : G.w = w) (B : Bl mg) (T : ClD G mg c) (Fneed_term : Cal P w G mg base 2 "need_term" (spneed_term c)) {f : Addr} {fd : FuncData} (F : Fun G.K "kind" "Bank.kind" stBank_kind f fd) : FnD P w G mg base CX0 3 f fd ["self", "term"] (spBank_kind c) := by
  refine FnD.mk F scBank_kind ?_ (fun cdv A outer s H E hr => deBank_kind hW B T Fneed_term cdv A outer s H E hr) (sem_of (sem_Bank_kind c))
  intro ds st R xq h
  unfold spBank_kind at h
  repeat (first | (obtain ⟨rfl, _⟩ := h; rfl) | (obtain ⟨_, h⟩ := h))
theorem fnBank_node {P : Program} {w : World} {G : Gm} {mg : Str → Option Value} {base : Heap} {c : Cl} (hW : G.w = w) (B : Bl mg) (T : ClD G mg c) (Fneed_term : Cal P w G mg base 2 "need_term" (spneed_term c)) {f : Addr} {fd : FuncData} (F : Fun G.K "node" "Bank.node" stBank_node f fd) : FnD P w G mg base CX0 3 f fd ["self", "term"] (spBank_node c) := by
  refine FnD.mk F scBank_node ?_ (fun cdv A outer s H E hr => deBank_node hW B T Fneed_term cdv A outer s H E hr) (sem_of (sem_Bank_node c))
  intro ds st R xq h
  unfold spBank_node at h
  repeat (first | (obtain ⟨rfl, _⟩ := h; rfl) | (obtain ⟨_, h⟩ := h))
theorem fnBank_DlenD {P : Program} {w : World} {G : Gm} {mg : Str → Option Value} {base : Heap} {c : Cl} (hW : G.w = w) (B : Bl mg) (T : ClD G mg c)  {f : Addr} {fd : FuncData} (F : Fun G.K "__len__" "Bank.__len__" stBank_DlenD f fd) : FnD P w G mg base CX0 1 f fd ["self"] (spBank_DlenD c) := by
  refine FnD.mk F scBank_DlenD ?_ (fun cdv A outer s H E hr => deBank_DlenD hW B T  cdv A outer s H E hr) (sem_of (sem_Bank_DlenD c))
  intro ds st R xq h
  unfold spBank_DlenD at h
  repeat (first | (obtain ⟨rfl, _⟩ := h; rfl) | (obtain ⟨_, h⟩ := h))
theorem fn_law_reel {P : Program} {w : World} {G : Gm} {mg : Str → Option Value} {base : Heap} {c : Cl} (hW : G.w = w) (B : Bl mg) (T : ClD G mg c)  {f : Addr} {fd : FuncData} (F : Fun G.K "_law_reel" "_law_reel" st_law_reel f fd) : FnD P w G mg base CX0 1 f fd ["_law_script"] (sp_law_reel c) := by
  refine FnD.mk F sc_law_reel ?_ (fun cdv A outer s H E hr => de_law_reel hW B T  cdv A outer s H E hr) (sem_of (sem_law_reel c))
  intro ds st R xq h
  unfold sp_law_reel at h
  repeat (first | (obtain ⟨rfl, _⟩ := h; rfl) | (obtain ⟨_, h⟩ := h))
theorem fn_law_draw {P : Program} {w : World} {G : Gm} {mg : Str → Option Value} {base : Heap} {c : Cl} (hW : G.w = w) (B : Bl mg) (T : ClD G mg c)  {f : Addr} {fd : FuncData} (F : Fun G.K "_law_draw" "_law_draw" st_law_draw f fd) : FnD P w G mg base CX0 1 f fd ["_law_reel_here", "_law_many"] (sp_law_draw c) := by
  refine FnD.mk F sc_law_draw ?_ (fun cdv A outer s H E hr => de_law_draw hW B T  cdv A outer s H E hr) (sem_of (sem_law_draw c))
  intro ds st R xq h
  unfold sp_law_draw at h
  repeat (first | (obtain ⟨rfl, _⟩ := h; rfl) | (obtain ⟨_, h⟩ := h))
theorem fn_law_words {P : Program} {w : World} {G : Gm} {mg : Str → Option Value} {base : Heap} {c : Cl} (hW : G.w = w) (B : Bl mg) (T : ClD G mg c)  {f : Addr} {fd : FuncData} (F : Fun G.K "_law_words" "_law_words" st_law_words f fd) : FnD P w G mg base CX0 1 f fd [] (sp_law_words c) := by
  refine FnD.mk F sc_law_words ?_ (fun cdv A outer s H E hr => de_law_words hW B T  cdv A outer s H E hr) (sem_of (sem_law_words c))
  intro ds st R xq h
  unfold sp_law_words at h
  repeat (first | (obtain ⟨rfl, _⟩ := h; rfl) | (obtain ⟨_, h⟩ := h))
theorem fn_law_array_kind {P : Program} {w : World} {G : Gm} {mg : Str → Option Value} {base : Heap} {c : Cl} (hW : G.w = w) (B : Bl mg) (T : ClD G mg c)  {f : Addr} {fd : FuncData} (F : Fun G.K "_law_array_kind" "_law_array_kind" st_law_array_kind f fd) : FnD P w G mg base CX0 1 f fd ["_law_word", "_law_kinds"] (sp_law_array_kind c) := by
  refine FnD.mk F sc_law_array_kind ?_ (fun cdv A outer s H E hr => de_law_array_kind hW B T  cdv A outer s H E hr) (sem_of (sem_law_array_kind c))
  intro ds st R xq h
  unfold sp_law_array_kind at h
  repeat (first | (obtain ⟨rfl, _⟩ := h; rfl) | (obtain ⟨_, h⟩ := h))
theorem fn_law_names {P : Program} {w : World} {G : Gm} {mg : Str → Option Value} {base : Heap} {c : Cl} (hW : G.w = w) (B : Bl mg) (T : ClD G mg c) (F_law_draw : Cal P w G mg base 1 "_law_draw" (sp_law_draw c)) {f : Addr} {fd : FuncData} (F : Fun G.K "_law_names" "_law_names" st_law_names f fd) : FnD P w G mg base CX0 2 f fd ["_law_reel_here"] (sp_law_names c) := by
  refine FnD.mk F sc_law_names ?_ (fun cdv A outer s H E hr => de_law_names hW B T F_law_draw cdv A outer s H E hr) (sem_of (sem_law_names c))
  intro ds st R xq h
  unfold sp_law_names at h
  repeat (first | (obtain ⟨rfl, _⟩ := h; rfl) | (obtain ⟨_, h⟩ := h))
theorem fn_law_begun {P : Program} {w : World} {G : Gm} {mg : Str → Option Value} {base : Heap} {c : Cl} (hW : G.w = w) (B : Bl mg) (T : ClD G mg c) (F_law_names : Cal P w G mg base 2 "_law_names" (sp_law_names c)) {f : Addr} {fd : FuncData} (F : Fun G.K "_law_begun" "_law_begun" st_law_begun f fd) : FnD P w G mg base CX0 3 f fd ["_law_reel_here"] (sp_law_begun c) := by
  refine FnD.mk F sc_law_begun ?_ (fun cdv A outer s H E hr => de_law_begun hW B T F_law_names cdv A outer s H E hr) (sem_of (sem_law_begun c))
  intro ds st R xq h
  unfold sp_law_begun at h
  repeat (first | (obtain ⟨rfl, _⟩ := h; rfl) | (obtain ⟨_, h⟩ := h))
theorem fn_law_pick {P : Program} {w : World} {G : Gm} {mg : Str → Option Value} {base : Heap} {c : Cl} (hW : G.w = w) (B : Bl mg) (T : ClD G mg c) (F_law_draw : Cal P w G mg base 1 "_law_draw" (sp_law_draw c)) {f : Addr} {fd : FuncData} (F : Fun G.K "_law_pick" "_law_pick" st_law_pick f fd) : FnD P w G mg base CX0 2 f fd ["_law_reel_here", "_law_model", "_law_kind_here"] (sp_law_pick c) := by
  refine FnD.mk F sc_law_pick ?_ (fun cdv A outer s H E hr => de_law_pick hW B T F_law_draw cdv A outer s H E hr) (sem_of (sem_law_pick c))
  intro ds st R xq h
  unfold sp_law_pick at h
  repeat (first | (obtain ⟨rfl, _⟩ := h; rfl) | (obtain ⟨_, h⟩ := h))
theorem fn_law_needs {P : Program} {w : World} {G : Gm} {mg : Str → Option Value} {base : Heap} {c : Cl} (hW : G.w = w) (B : Bl mg) (T : ClD G mg c) (F_law_draw : Cal P w G mg base 1 "_law_draw" (sp_law_draw c)) {f : Addr} {fd : FuncData} (F : Fun G.K "_law_needs" "_law_needs" st_law_needs f fd) : FnD P w G mg base CX0 2 f fd ["_law_reel_here", "_law_model", "_law_word"] (sp_law_needs c) := by
  refine FnD.mk F sc_law_needs ?_ (fun cdv A outer s H E hr => de_law_needs hW B T F_law_draw cdv A outer s H E hr) (sem_of (sem_law_needs c))
  intro ds st R xq h
  unfold sp_law_needs at h
  repeat (first | (obtain ⟨rfl, _⟩ := h; rfl) | (obtain ⟨_, h⟩ := h))
theorem fn_law_marks {P : Program} {w : World} {G : Gm} {mg : Str → Option Value} {base : Heap} {c : Cl} (hW : G.w = w) (B : Bl mg) (T : ClD G mg c) (F_law_draw : Cal P w G mg base 1 "_law_draw" (sp_law_draw c)) {f : Addr} {fd : FuncData} (F : Fun G.K "_law_marks" "_law_marks" st_law_marks f fd) : FnD P w G mg base CX0 2 f fd ["_law_reel_here", "_law_word", "_law_kinds"] (sp_law_marks c) := by
  refine FnD.mk F sc_law_marks ?_ (fun cdv A outer s H E hr => de_law_marks hW B T F_law_draw cdv A outer s H E hr) (sem_of (sem_law_marks c))
  intro ds st R xq h
  unfold sp_law_marks at h
  repeat (first | (obtain ⟨rfl, _⟩ := h; rfl) | (obtain ⟨_, h⟩ := h))
theorem fn_law_banked {P : Program} {w : World} {G : Gm} {mg : Str → Option Value} {base : Heap} {c : Cl} (hW : G.w = w) (B : Bl mg) (T : ClD G mg c) (FBank_DinitD : CalI P w G mg base 1 c.Bank "Bank" (spBank_DinitD c)) (FBank_name : CalM P w G mg base 3 c.Bank NBank "name" (spBank_name c)) {f : Addr} {fd : FuncData} (F : Fun G.K "_law_banked" "_law_banked" st_law_banked f fd) : FnD P w G mg base CX0 4 f fd ["_law_model"] (sp_law_banked c) := by
  refine FnD.mk F sc_law_banked ?_ (fun cdv A outer s H E hr => de_law_banked hW B T FBank_DinitD FBank_name cdv A outer s H E hr) (sem_of (sem_law_banked c))
  intro ds st R xq h
  unfold sp_law_banked at h
  repeat (first | (obtain ⟨rfl, _⟩ := h; rfl) | (obtain ⟨_, h⟩ := h))
theorem fn_law_order {P : Program} {w : World} {G : Gm} {mg : Str → Option Value} {base : Heap} {c : Cl} (hW : G.w = w) (B : Bl mg) (T : ClD G mg c) (F_law_draw : Cal P w G mg base 1 "_law_draw" (sp_law_draw c)) {f : Addr} {fd : FuncData} (F : Fun G.K "_law_order" "_law_order" st_law_order f fd) : FnD P w G mg base CX0 2 f fd ["_law_reel_here", "_law_model"] (sp_law_order c) := by
  refine FnD.mk F sc_law_order ?_ (fun cdv A outer s H E hr => de_law_order hW B T F_law_draw cdv A outer s H E hr) (sem_of (sem_law_order c))
  intro ds st R xq h
  unfold sp_law_order at h
  repeat (first | (obtain ⟨rfl, _⟩ := h; rfl) | (obtain ⟨_, h⟩ := h))
theorem fn_law_moved {P : Program} {w : World} {G : Gm} {mg : Str → Option Value} {base : Heap} {c : Cl} (hW : G.w = w) (B : Bl mg) (T : ClD G mg c) (FBank_name : CalM P w G mg base 3 c.Bank NBank "name" (spBank_name c)) (FGBank_make_3_m : CalG P w G mg base 5 c.Bank NBank "make" 3 ["marks"] [] [] (spBank_make c)) {f : Addr} {fd : FuncData} (F : Fun G.K "_law_moved" "_law_moved" st_law_moved f fd) : FnD P w G mg base CX0 6 f fd ["_law_bank", "_law_model", "_law_order_here"] (sp_law_moved c) := by
  refine FnD.mk F sc_law_moved ?_ (fun cdv A outer s H E hr => de_law_moved hW B T FBank_name FGBank_make_3_m cdv A outer s H E hr) (sem_of (sem_law_moved c))
  intro ds st R xq h
  unfold sp_law_moved at h
  repeat (first | (obtain ⟨rfl, _⟩ := h; rfl) | (obtain ⟨_, h⟩ := h))
theorem fn_law_kind {P : Program} {w : World} {G : Gm} {mg : Str → Option Value} {base : Heap} {c : Cl} (hW : G.w = w) (B : Bl mg) (T : ClD G mg c) (F_law_array_kind : Cal P w G mg base 1 "_law_array_kind" (sp_law_array_kind c)) {f : Addr} {fd : FuncData} (F : Fun G.K "_law_kind" "_law_kind" st_law_kind f fd) : FnD P w G mg base CX0 2 f fd ["_law_word", "_law_kinds", "_law_tags"] (sp_law_kind c) := by
  refine FnD.mk F sc_law_kind ?_ (fun cdv A outer s H E hr => de_law_kind hW B T F_law_array_kind cdv A outer s H E hr) (sem_of (sem_law_kind c))
  intro ds st R xq h
  unfold sp_law_kind at h
  repeat (first | (obtain ⟨rfl, _⟩ := h; rfl) | (obtain ⟨_, h⟩ := h))
theorem fn_law_good {P : Program} {w : World} {G : Gm} {mg : Str → Option Value} {base : Heap} {c : Cl} (hW : G.w = w) (B : Bl mg) (T : ClD G mg c) (F_law_words : Cal P w G mg base 1 "_law_words" (sp_law_words c)) (F_law_draw : Cal P w G mg base 1 "_law_draw" (sp_law_draw c)) (F_law_needs : Cal P w G mg base 2 "_law_needs" (sp_law_needs c)) (F_law_pick : Cal P w G mg base 2 "_law_pick" (sp_law_pick c)) (F_law_marks : Cal P w G mg base 2 "_law_marks" (sp_law_marks c)) (F_law_kind : Cal P w G mg base 2 "_law_kind" (sp_law_kind c)) {f : Addr} {fd : FuncData} (F : Fun G.K "_law_good" "_law_good" st_law_good f fd) : FnD P w G mg base CX0 3 f fd ["_law_reel_here", "_law_model"] (sp_law_good c) := by
  refine FnD.mk F sc_law_good ?_ (fun cdv A outer s H E hr => de_law_good hW B T F_law_words F_law_draw F_law_needs F_law_pick F_law_marks F_law_kind cdv A outer s H E hr) (sem_of (sem_law_good c))
  intro ds st R xq h
  unfold sp_law_good at h
  repeat (first | (obtain ⟨rfl, _⟩ := h; rfl) | (obtain ⟨_, h⟩ := h))
theorem fn_law_taken {P : Program} {w : World} {G : Gm} {mg : Str → Option Value} {base : Heap} {c : Cl} (hW : G.w = w) (B : Bl mg) (T : ClD G mg c) (F_law_kind : Cal P w G mg base 2 "_law_kind" (sp_law_kind c)) {f : Addr} {fd : FuncData} (F : Fun G.K "_law_taken" "_law_taken" st_law_taken f fd) : FnD P w G mg base CX0 3 f fd ["_law_model", "_law_node"] (sp_law_taken c) := by
  refine FnD.mk F sc_law_taken ?_ (fun cdv A outer s H E hr => de_law_taken hW B T F_law_kind cdv A outer s H E hr) (sem_of (sem_law_taken c))
  intro ds st R xq h
  unfold sp_law_taken at h
  repeat (first | (obtain ⟨rfl, _⟩ := h; rfl) | (obtain ⟨_, h⟩ := h))
theorem fnlaw {P : Program} {w : World} {G : Gm} {mg : Str → Option Value} {base : Heap} {c : Cl} (hW : G.w = w) (B : Bl mg) (T : ClD G mg c) (F_law_reel : Cal P w G mg base 1 "_law_reel" (sp_law_reel c)) (F_law_begun : Cal P w G mg base 3 "_law_begun" (sp_law_begun c)) (F_law_banked : Cal P w G mg base 4 "_law_banked" (sp_law_banked c)) (F_law_good : Cal P w G mg base 3 "_law_good" (sp_law_good c)) (FGBank_make_3_m : CalG P w G mg base 5 c.Bank NBank "make" 3 ["marks"] [] [] (spBank_make c)) (F_law_taken : Cal P w G mg base 3 "_law_taken" (sp_law_taken c)) (FBank_DinitD : CalI P w G mg base 1 c.Bank "Bank" (spBank_DinitD c)) (F_law_moved : Cal P w G mg base 6 "_law_moved" (sp_law_moved c)) (F_law_order : Cal P w G mg base 2 "_law_order" (sp_law_order c)) (FBank_DlenD : CalM P w G mg base 1 c.Bank NBank "__len__" (spBank_DlenD c)) (FBank_node : CalM P w G mg base 3 c.Bank NBank "node" (spBank_node c)) (FBank_kind : CalM P w G mg base 3 c.Bank NBank "kind" (spBank_kind c)) {f : Addr} {fd : FuncData} (F : Fun G.K "law" "law" stlaw f fd) : FnD P w G mg base CX0 7 f fd ["_law_script"] (splaw c) := by
  refine FnD.mk F sclaw ?_ (fun cdv A outer s H E hr => delaw hW B T F_law_reel F_law_begun F_law_banked F_law_good FGBank_make_3_m F_law_taken FBank_DinitD F_law_moved F_law_order FBank_DlenD FBank_node FBank_kind cdv A outer s H E hr) (sem_of (sem_law c))
  intro ds st R xq h
  unfold splaw at h
  repeat (first | (obtain ⟨rfl, _⟩ := h; rfl) | (obtain ⟨_, h⟩ := h))
theorem binds_dflt {K : PySem.W.Frag} {fd : FuncData} {ps : List Str} {x : Str} {T : Addr} (h : ∃ ds, Vals ([(x, V.ref T)].map (·.2)) ds ∧ Binds K fd ps ds) : Binds K fd ps [.ref T] := by
  obtain ⟨ds, v, b⟩ := h
  cases v with
  | cons r rr => cases rr; cases r; exact b
theorem sqT_nil {K : PySem.W.Frag} {T : Addr} {ox : Option Addr} {n : Nat} {sx : Array (Option Value)} (t : K.lookup T = some ⟨.type "tuple", ox, .seq #[] n, sx⟩) : SqT K (fun _ => none) T [] := .inr ⟨_, #[], n, t, rfl, rfl, by simp, .nil⟩
def spLaw (K : PySem.W.Frag) : Sp := fun vs H Q _ => ∃ (a : Addr) (ns : List Int), vs = [.ref a] ∧ SqL K H a (ns.map V.int) ∧ ns.length ≤ 63 ∧ ∀ H', Q (.bl true) H'
theorem RpL_ints {K : PySem.W.Frag} {W : Wd} {H : Hp} : ∀ ns : List Int, RpL K W H (dIs ns) (ns.map V.int)
  | [] => by simp [RpL]
  | n :: ns => by
    simp only [dIs, List.map_cons, RpL]
    exact ⟨_, _, rfl, by simp [Rp], RpL_ints ns⟩
theorem law_start {K : PySem.W.Frag} {c : Cl} {g : Addr → List Str} {vs : List V} {H : Hp} {Q : VK} {E : XK} {w : World} (h : spLaw K vs H Q E) : spD ⟨K, g, w⟩ (splaw c) vs H Q E := by
  obtain ⟨a, ns, rfl, hS, hl, k⟩ := h
  refine ⟨⟨[], []⟩, [.scr (dIs ns)], [], fun d _ => d = .bl true, fun _ _ => False, ⟨by simp, rfl, by simp, by simp, fun k c e => by simp at e⟩, ?_, ⟨ns, rfl, by omega, fun _ => rfl⟩, ⟨fun W' H' d v st' _ _ r e => by subst e; simp only [Rp] at r; subst r; exact k _, fun _ _ _ _ _ _ q => q.elim⟩⟩
  simp only [RpL]
  refine ⟨_, _, rfl, ?_, rfl⟩
  simp only [Rp]
  refine ⟨a, ns.map V.int, rfl, ?_, RpL_ints ns⟩
  rcases hS with q | q
  · exact .inl ⟨by simp, by simp, q⟩
  · exact .inr (.inr q)

def EsT : List DictEntry → List (Str × Addr) → Prop
  | [], [] => True
  | e :: es, p :: tb => ((∃ t, e.key = .str p.1 t) ∧ e.val = .ref p.2) ∧ EsT es tb
  | _, _ => False
theorem est_ns {x : Str} : ∀ {es : List DictEntry} {tb : List (Str × Addr)}, EsT es tb → (es.find? (·.key.isStr x)).map (·.val) = (tb.lookup x).map Value.ref ∧ es.any (·.refKey) = false
  | [], [], _ => ⟨rfl, rfl⟩
  | [], _ :: _, h => by cases h
  | _ :: _, [], h => by cases h
  | e :: es, p :: tb, h => by
    obtain ⟨⟨⟨t, h1⟩, h2⟩, h3⟩ := h
    obtain ⟨i1, i2⟩ := est_ns (x := x) h3
    have r : e.refKey = false := by
      rcases e with ⟨k, v, hh⟩
      cases h1; rfl
    have s : e.key.isStr x = decide (p.1 = x) := by
      rw [h1]
      show (p.1 == x) = decide (p.1 = x)
      by_cases q : p.1 = x <;> simp [q]
    refine ⟨?_, by rw [List.any_cons, r, i2]; rfl⟩
    rw [List.find?_cons, s]
    by_cases q : p.1 = x
    · subst q
      simp [List.lookup, h2]
    · have q' : (x == p.1) = false := by
        have : ¬ x = p.1 := fun z => q z.symm
        simp [this]
      rw [decide_eq_false q]
      simp only [List.lookup, q']
      exact i1
theorem tab_of {G : Gm} {d : Addr} {es : Array DictEntry} {n : Nat} {tb : List (Str × Addr)} (hl : G.K.lookup d = some ⟨.type "dict", none, .dict es n, #[]⟩) (hk : PySem.W.KeysLit G.w.params es.toList) (hs : (d == sysModules) = false) (ht : EsT es.toList tb) : TabD G d tb := by
  refine ⟨es, n, hl, hk, hs, fun x => ?_⟩
  obtain ⟨h1, h2⟩ := est_ns (x := x) ht
  unfold PySem.W.nsIn
  rw [hl]
  cases e : es.toList.find? (·.key.isStr x) with
  | some y => rw [e] at h1; simp only [Option.map_some] at h1; simp only [e]; rw [← h1]
  | none => rw [e] at h1; simp only [Option.map_none] at h1; simp only [e, h2]; rw [← h1]; rfl
theorem gl_str {G : Gm} {mg : Str → Option Value} {x z : Str} {t : Tok} (h : mg x = some (.str z t)) : GlD G mg x (.str z) := ⟨.str z, _, h, ⟨t, rfl⟩, fun _ _ => rfl⟩
theorem gl_int {G : Gm} {mg : Str → Option Value} {x : Str} {z : Int} {t : Tok} (h : mg x = some (.int z t)) : GlD G mg x (.int z) := ⟨.int z, _, h, ⟨t, rfl⟩, fun _ _ => rfl⟩
theorem gl_raw {G : Gm} {mg : Str → Option Value} {x : Str} {a : Addr} (h : mg x = some (.ref a)) : GlD G mg x (.raw (.ref a)) := ⟨.ref a, _, h, rfl, fun _ _ => rfl⟩
theorem gl_tup1 {G : Gm} {mg : Str → Option Value} {x z : Str} {a : Addr} {o : Option Addr} {t : Tok} {n : Nat} {s : Array (Option Value)} (h : mg x = some (.ref a)) (l : G.K.lookup a = some ⟨.type "tuple", o, .seq #[.str z t] n, s⟩) : GlD G mg x (.tup [.str z]) := by
  refine ⟨.ref a, _, h, rfl, fun W H => ?_⟩
  simp only [Rp]
  exact ⟨a, [.str z], rfl, .inr (.inr ⟨_, #[.str z t], n, l, rfl, rfl, (by show 1 ≤ sizeLine; decide), .cons ⟨t, rfl⟩ .nil⟩), by simp only [RpL]; exact ⟨_, _, rfl, rfl, rfl⟩⟩
theorem rp_nil {K : PySem.W.Frag} {W : Wd} {H : Hp} {T : Addr} {ox : Option Addr} {n : Nat} {sx : Array (Option Value)} (t : K.lookup T = some ⟨.type "tuple", ox, .seq #[] n, sx⟩) : RpL K W H [.tup []] [V.ref T] := by
  simp only [RpL]
  refine ⟨_, _, rfl, ?_, rfl⟩
  simp only [Rp]
  exact ⟨T, [], rfl, .inr (sqT_nil t), rfl⟩
theorem kbn_dflt {K : PySem.W.Frag} {fd : FuncData} {ps : List Str} {ds : List Value} {dvs : List V} (n : Nat) (b : Binds K fd ps ds) (hd : Vals dvs ds) (hn : n + dvs.length = ps.length) : KBn K fd ps n [] (fun us ws => us ++ ws ++ ds) (fun vs zs => vs ++ zs ++ dvs) := by
  refine ⟨fun s us ws X l1 l2 => ?_, fun r1 r2 => (r1.append r2).append hd⟩
  have : ws = [] := List.eq_nil_of_length_eq_zero l2
  subst this
  rw [List.append_nil]
  exact b s us X (by rw [List.length_append, ← hd.length]; omega)

theorem all_mk {l : PySem.W.OpenLaw} {w : World} {K : PySem.W.Frag} {h : Heap} {mg : Str → Option Value} {fa C0 T0 f0 f1 f2 f3 f4 f5 f6 f7 f8 f9 f10 f11 f12 f13 f14 f15 f16 f17 f18 f19 kT20 kE20 kD20 kM20 f20 f21 f22 f23 f24 f25 f26 f27 f28 f29 f30 f31 f32 f33 f34 f35 f36 f37 f38 f39 f40 gA0 : Addr} (X : K.In h) (G : h.Ns mainGlobals mg) (hfa : mg "law" = some (.ref fa))
    {od0 an0 od1 an1 od2 an2 od3 an3 od4 an4 od5 an5 od6 an6 od7 an7 od8 an8 od9 an9 od10 an10 od11 an11 od12 an12 od13 an13 od14 an14 od15 an15 od16 an16 od17 an17 od18 an18 od19 an19 oz20 ox20 oy20 od20 an20 od21 an21 od22 an22 od23 an23 od24 an24 od25 an25 od26 an26 od27 an27 od28 an28 od29 an29 od30 an30 od31 an31 od32 an32 od33 an33 od34 an34 od35 an35 od36 an36 od37 an37 od38 an38 od39 an39 od40 an40 go0 : Option Addr} {sl0 sl1 sl2 sl3 sl4 sl5 sl6 sl7 sl8 sl9 sl10 sl11 sl12 sl13 sl14 sl15 sl16 sl17 sl18 sl19 sz20 sx20 sy20 sl20 sl21 sl22 sl23 sl24 sl25 sl26 sl27 sl28 sl29 sl30 sl31 sl32 sl33 sl34 sl35 sl36 sl37 sl38 sl39 sl40 gs0 : Array (Option Value)} {oc0 dc0 pm0 cd0 ct0 kV0 oc1 dc1 pm1 cd1 ct1 kV1 oc2 dc2 pm2 cd2 ct2 kV2 oc3 dc3 pm3 cd3 ct3 kV3 oc4 dc4 pm4 cd4 ct4 kV4 oc5 dc5 pm5 cd5 ct5 kV5 oc6 dc6 pm6 cd6 ct6 kV6 oc7 dc7 pm7 cd7 ct7 kV7 oc8 dc8 pm8 cd8 ct8 kV8 oc9 dc9 pm9 cd9 ct9 kV9 oc10 dc10 pm10 cd10 ct10 kV10 oc11 dc11 pm11 cd11 ct11 kV11 oc12 dc12 pm12 cd12 ct12 kV12 oc13 dc13 pm13 cd13 ct13 kV13 oc14 dc14 pm14 cd14 ct14 kV14 oc15 dc15 pm15 cd15 ct15 kV15 oc16 dc16 pm16 cd16 ct16 kV16 oc17 dc17 pm17 cd17 ct17 kV17 oc18 dc18 pm18 cd18 ct18 kV18 oc19 dc19 pm19 cd19 ct19 kV19 oc20 dc20 pm20 cd20 ct20 oc21 dc21 pm21 cd21 ct21 kV21 oc22 dc22 pm22 cd22 ct22 kV22 oc23 dc23 pm23 cd23 ct23 kV23 oc24 dc24 pm24 cd24 ct24 kV24 oc25 dc25 pm25 cd25 ct25 kV25 oc26 dc26 pm26 cd26 ct26 kV26 oc27 dc27 pm27 cd27 ct27 kV27 oc28 dc28 pm28 cd28 ct28 kV28 oc29 dc29 pm29 cd29 ct29 kV29 oc30 dc30 pm30 cd30 ct30 kV30 oc31 dc31 pm31 cd31 ct31 kV31 oc32 dc32 pm32 cd32 ct32 kV32 oc33 dc33 pm33 cd33 ct33 kV33 oc34 dc34 pm34 cd34 ct34 kV34 oc35 dc35 pm35 cd35 ct35 kV35 oc36 dc36 pm36 cd36 ct36 kV36 oc37 dc37 pm37 cd37 ct37 kV37 oc38 dc38 pm38 cd38 ct38 kV38 oc39 dc39 pm39 cd39 ct39 kV39 oc40 dc40 pm40 cd40 ct40 kV40 : Value} {tz20 tn20 tm20 gn0 td0 : Nat} {gk0 gk1 gk2 gk3 gk4 : Tok} {te0 : Array DictEntry}
    (a0 : PySem.W.nsIn K mainGlobals "is_whole" = some (some (.ref f0)))
    (l0 : K.lookup f0 = some ⟨oc0, od0, .func (PySem.W.fnOf "is_whole" "is_whole" (defArgs stis_whole) (defBody stis_whole) (defScope stis_whole) .none kV0 dc0 pm0 an0 cd0 ct0), sl0⟩) (c0 : PySem.W.codeIn K cd0 "is_whole" = true) (k0 : PySem.W.keepIn K (.ref f0) = true)
    (a1 : PySem.W.nsIn K mainGlobals "as_kind" = some (some (.ref f1)))
    (l1 : K.lookup f1 = some ⟨oc1, od1, .func (PySem.W.fnOf "as_kind" "as_kind" (defArgs stas_kind) (defBody stas_kind) (defScope stas_kind) .none kV1 dc1 pm1 an1 cd1 ct1), sl1⟩) (c1 : PySem.W.codeIn K cd1 "as_kind" = true) (k1 : PySem.W.keepIn K (.ref f1) = true)
    (a2 : PySem.W.nsIn K mainGlobals "of_nothing" = some (some (.ref f2)))
    (l2 : K.lookup f2 = some ⟨oc2, od2, .func (PySem.W.fnOf "of_nothing" "of_nothing" (defArgs stof_nothing) (defBody stof_nothing) (defScope stof_nothing) .none kV2 dc2 pm2 an2 cd2 ct2), sl2⟩) (c2 : PySem.W.codeIn K cd2 "of_nothing" = true) (k2 : PySem.W.keepIn K (.ref f2) = true)
    (a3 : PySem.W.nsIn K mainGlobals "of_marks" = some (some (.ref f3)))
    (l3 : K.lookup f3 = some ⟨oc3, od3, .func (PySem.W.fnOf "of_marks" "of_marks" (defArgs stof_marks) (defBody stof_marks) (defScope stof_marks) .none kV3 dc3 pm3 an3 cd3 ct3), sl3⟩) (c3 : PySem.W.codeIn K cd3 "of_marks" = true) (k3 : PySem.W.keepIn K (.ref f3) = true)
    (a4 : PySem.W.nsIn K mainGlobals "of_truth" = some (some (.ref f4)))
    (l4 : K.lookup f4 = some ⟨oc4, od4, .func (PySem.W.fnOf "of_truth" "of_truth" (defArgs stof_truth) (defBody stof_truth) (defScope stof_truth) .none kV4 dc4 pm4 an4 cd4 ct4), sl4⟩) (c4 : PySem.W.codeIn K cd4 "of_truth" = true) (k4 : PySem.W.keepIn K (.ref f4) = true)
    (a5 : PySem.W.nsIn K mainGlobals "of_truths" = some (some (.ref f5)))
    (l5 : K.lookup f5 = some ⟨oc5, od5, .func (PySem.W.fnOf "of_truths" "of_truths" (defArgs stof_truths) (defBody stof_truths) (defScope stof_truths) .none kV5 dc5 pm5 an5 cd5 ct5), sl5⟩) (c5 : PySem.W.codeIn K cd5 "of_truths" = true) (k5 : PySem.W.keepIn K (.ref f5) = true)
    (a6 : PySem.W.nsIn K mainGlobals "of_alike" = some (some (.ref f6)))
    (l6 : K.lookup f6 = some ⟨oc6, od6, .func (PySem.W.fnOf "of_alike" "of_alike" (defArgs stof_alike) (defBody stof_alike) (defScope stof_alike) .none kV6 dc6 pm6 an6 cd6 ct6), sl6⟩) (c6 : PySem.W.codeIn K cd6 "of_alike" = true) (k6 : PySem.W.keepIn K (.ref f6) = true)
    (a7 : PySem.W.nsIn K mainGlobals "of_words" = some (some (.ref f7)))
    (l7 : K.lookup f7 = some ⟨oc7, od7, .func (PySem.W.fnOf "of_words" "of_words" (defArgs stof_words) (defBody stof_words) (defScope stof_words) .none kV7 dc7 pm7 an7 cd7 ct7), sl7⟩) (c7 : PySem.W.codeIn K cd7 "of_words" = true) (k7 : PySem.W.keepIn K (.ref f7) = true)
    (a8 : PySem.W.nsIn K mainGlobals "of_less" = some (some (.ref f8)))
    (l8 : K.lookup f8 = some ⟨oc8, od8, .func (PySem.W.fnOf "of_less" "of_less" (defArgs stof_less) (defBody stof_less) (defScope stof_less) .none kV8 dc8 pm8 an8 cd8 ct8), sl8⟩) (c8 : PySem.W.codeIn K cd8 "of_less" = true) (k8 : PySem.W.keepIn K (.ref f8) = true)
    (a9 : PySem.W.nsIn K mainGlobals "of_choice" = some (some (.ref f9)))
    (l9 : K.lookup f9 = some ⟨oc9, od9, .func (PySem.W.fnOf "of_choice" "of_choice" (defArgs stof_choice) (defBody stof_choice) (defScope stof_choice) .none kV9 dc9 pm9 an9 cd9 ct9), sl9⟩) (c9 : PySem.W.codeIn K cd9 "of_choice" = true) (k9 : PySem.W.keepIn K (.ref f9) = true)
    (a10 : PySem.W.nsIn K mainGlobals "of_word" = some (some (.ref f10)))
    (l10 : K.lookup f10 = some ⟨oc10, od10, .func (PySem.W.fnOf "of_word" "of_word" (defArgs stof_word) (defBody stof_word) (defScope stof_word) .none kV10 dc10 pm10 an10 cd10 ct10), sl10⟩) (c10 : PySem.W.codeIn K cd10 "of_word" = true) (k10 : PySem.W.keepIn K (.ref f10) = true)
    (a11 : PySem.W.nsIn K mainGlobals "of_joined" = some (some (.ref f11)))
    (l11 : K.lookup f11 = some ⟨oc11, od11, .func (PySem.W.fnOf "of_joined" "of_joined" (defArgs stof_joined) (defBody stof_joined) (defScope stof_joined) .none kV11 dc11 pm11 an11 cd11 ct11), sl11⟩) (c11 : PySem.W.codeIn K cd11 "of_joined" = true) (k11 : PySem.W.keepIn K (.ref f11) = true)
    (a12 : PySem.W.nsIn K mainGlobals "of_cut" = some (some (.ref f12)))
    (l12 : K.lookup f12 = some ⟨oc12, od12, .func (PySem.W.fnOf "of_cut" "of_cut" (defArgs stof_cut) (defBody stof_cut) (defScope stof_cut) .none kV12 dc12 pm12 an12 cd12 ct12), sl12⟩) (c12 : PySem.W.codeIn K cd12 "of_cut" = true) (k12 : PySem.W.keepIn K (.ref f12) = true)
    (a13 : PySem.W.nsIn K mainGlobals "of_read" = some (some (.ref f13)))
    (l13 : K.lookup f13 = some ⟨oc13, od13, .func (PySem.W.fnOf "of_read" "of_read" (defArgs stof_read) (defBody stof_read) (defScope stof_read) .none kV13 dc13 pm13 an13 cd13 ct13), sl13⟩) (c13 : PySem.W.codeIn K cd13 "of_read" = true) (k13 : PySem.W.keepIn K (.ref f13) = true)
    (a14 : PySem.W.nsIn K mainGlobals "of_written" = some (some (.ref f14)))
    (l14 : K.lookup f14 = some ⟨oc14, od14, .func (PySem.W.fnOf "of_written" "of_written" (defArgs stof_written) (defBody stof_written) (defScope stof_written) .none kV14 dc14 pm14 an14 cd14 ct14), sl14⟩) (c14 : PySem.W.codeIn K cd14 "of_written" = true) (k14 : PySem.W.keepIn K (.ref f14) = true)
    (a15 : PySem.W.nsIn K mainGlobals "kind_by" = some (some (.ref f15)))
    (l15 : K.lookup f15 = some ⟨oc15, od15, .func (PySem.W.fnOf "kind_by" "kind_by" (defArgs stkind_by) (defBody stkind_by) (defScope stkind_by) .none kV15 dc15 pm15 an15 cd15 ct15), sl15⟩) (c15 : PySem.W.codeIn K cd15 "kind_by" = true) (k15 : PySem.W.keepIn K (.ref f15) = true)
    (a16 : PySem.W.nsIn K mainGlobals "is_name" = some (some (.ref f16)))
    (l16 : K.lookup f16 = some ⟨oc16, od16, .func (PySem.W.fnOf "is_name" "is_name" (defArgs stis_name) (defBody stis_name) (defScope stis_name) .none kV16 dc16 pm16 an16 cd16 ct16), sl16⟩) (c16 : PySem.W.codeIn K cd16 "is_name" = true) (k16 : PySem.W.keepIn K (.ref f16) = true)
    (a17 : PySem.W.nsIn K mainGlobals "need_term" = some (some (.ref f17)))
    (l17 : K.lookup f17 = some ⟨oc17, od17, .func (PySem.W.fnOf "need_term" "need_term" (defArgs stneed_term) (defBody stneed_term) (defScope stneed_term) .none kV17 dc17 pm17 an17 cd17 ct17), sl17⟩) (c17 : PySem.W.codeIn K cd17 "need_term" = true) (k17 : PySem.W.keepIn K (.ref f17) = true)
    (a18 : PySem.W.nsIn K mainGlobals "put_in" = some (some (.ref f18)))
    (l18 : K.lookup f18 = some ⟨oc18, od18, .func (PySem.W.fnOf "put_in" "put_in" (defArgs stput_in) (defBody stput_in) (defScope stput_in) .none kV18 dc18 pm18 an18 cd18 ct18), sl18⟩) (c18 : PySem.W.codeIn K cd18 "put_in" = true) (k18 : PySem.W.keepIn K (.ref f18) = true)
    (a19 : PySem.W.findIn K (.ref C0) "__init__" = some (some (.ref f19))) (i19 : PySem.W.isFn K (.ref f19) = true)
    (l19 : K.lookup f19 = some ⟨oc19, od19, .func (PySem.W.fnOf "__init__" "Bank.__init__" (defArgs stBank_DinitD) (defBody stBank_DinitD) (defScope stBank_DinitD) .none kV19 dc19 pm19 an19 cd19 ct19), sl19⟩) (c19 : PySem.W.codeIn K cd19 "Bank.__init__" = true) (k19 : PySem.W.keepIn K (.ref f19) = true)
    (a20 : PySem.W.findIn K (.ref C0) "make" = some (some (.ref f20))) (i20 : PySem.W.isFn K (.ref f20) = true)
    (l20 : K.lookup f20 = some ⟨oc20, od20, .func (PySem.W.fnOf "make" "Bank.make" (defArgs stBank_make) (defBody stBank_make) (defScope stBank_make) (.ref kT20) (.ref kD20) dc20 pm20 an20 cd20 ct20), sl20⟩) (c20 : PySem.W.codeIn K cd20 "Bank.make" = true) (k20 : PySem.W.keepIn K (.ref f20) = true)
    (q20 : K.lookup kT20 = some ⟨.type "tuple", ox20, .seq #[.ref kE20] tn20, sx20⟩) (t20 : K.lookup kE20 = some ⟨.type "tuple", oy20, .seq #[] tm20, sy20⟩) (p20 : PySem.W.nsIn K kD20 "marks" = some (some (.ref kM20))) (u20 : K.lookup kM20 = some ⟨.type "tuple", oz20, .seq #[] tz20, sz20⟩)
    (a21 : PySem.W.findIn K (.ref C0) "name" = some (some (.ref f21))) (i21 : PySem.W.isFn K (.ref f21) = true)
    (l21 : K.lookup f21 = some ⟨oc21, od21, .func (PySem.W.fnOf "name" "Bank.name" (defArgs stBank_name) (defBody stBank_name) (defScope stBank_name) .none kV21 dc21 pm21 an21 cd21 ct21), sl21⟩) (c21 : PySem.W.codeIn K cd21 "Bank.name" = true) (k21 : PySem.W.keepIn K (.ref f21) = true)
    (a22 : PySem.W.findIn K (.ref C0) "kind" = some (some (.ref f22))) (i22 : PySem.W.isFn K (.ref f22) = true)
    (l22 : K.lookup f22 = some ⟨oc22, od22, .func (PySem.W.fnOf "kind" "Bank.kind" (defArgs stBank_kind) (defBody stBank_kind) (defScope stBank_kind) .none kV22 dc22 pm22 an22 cd22 ct22), sl22⟩) (c22 : PySem.W.codeIn K cd22 "Bank.kind" = true) (k22 : PySem.W.keepIn K (.ref f22) = true)
    (a23 : PySem.W.findIn K (.ref C0) "node" = some (some (.ref f23))) (i23 : PySem.W.isFn K (.ref f23) = true)
    (l23 : K.lookup f23 = some ⟨oc23, od23, .func (PySem.W.fnOf "node" "Bank.node" (defArgs stBank_node) (defBody stBank_node) (defScope stBank_node) .none kV23 dc23 pm23 an23 cd23 ct23), sl23⟩) (c23 : PySem.W.codeIn K cd23 "Bank.node" = true) (k23 : PySem.W.keepIn K (.ref f23) = true)
    (a24 : PySem.W.findIn K (.ref C0) "__len__" = some (some (.ref f24))) (i24 : PySem.W.isFn K (.ref f24) = true)
    (l24 : K.lookup f24 = some ⟨oc24, od24, .func (PySem.W.fnOf "__len__" "Bank.__len__" (defArgs stBank_DlenD) (defBody stBank_DlenD) (defScope stBank_DlenD) .none kV24 dc24 pm24 an24 cd24 ct24), sl24⟩) (c24 : PySem.W.codeIn K cd24 "Bank.__len__" = true) (k24 : PySem.W.keepIn K (.ref f24) = true)
    (a25 : PySem.W.nsIn K mainGlobals "_law_reel" = some (some (.ref f25)))
    (l25 : K.lookup f25 = some ⟨oc25, od25, .func (PySem.W.fnOf "_law_reel" "_law_reel" (defArgs st_law_reel) (defBody st_law_reel) (defScope st_law_reel) .none kV25 dc25 pm25 an25 cd25 ct25), sl25⟩) (c25 : PySem.W.codeIn K cd25 "_law_reel" = true) (k25 : PySem.W.keepIn K (.ref f25) = true)
    (a26 : PySem.W.nsIn K mainGlobals "_law_draw" = some (some (.ref f26)))
    (l26 : K.lookup f26 = some ⟨oc26, od26, .func (PySem.W.fnOf "_law_draw" "_law_draw" (defArgs st_law_draw) (defBody st_law_draw) (defScope st_law_draw) .none kV26 dc26 pm26 an26 cd26 ct26), sl26⟩) (c26 : PySem.W.codeIn K cd26 "_law_draw" = true) (k26 : PySem.W.keepIn K (.ref f26) = true)
    (a27 : PySem.W.nsIn K mainGlobals "_law_words" = some (some (.ref f27)))
    (l27 : K.lookup f27 = some ⟨oc27, od27, .func (PySem.W.fnOf "_law_words" "_law_words" (defArgs st_law_words) (defBody st_law_words) (defScope st_law_words) .none kV27 dc27 pm27 an27 cd27 ct27), sl27⟩) (c27 : PySem.W.codeIn K cd27 "_law_words" = true) (k27 : PySem.W.keepIn K (.ref f27) = true)
    (a28 : PySem.W.nsIn K mainGlobals "_law_array_kind" = some (some (.ref f28)))
    (l28 : K.lookup f28 = some ⟨oc28, od28, .func (PySem.W.fnOf "_law_array_kind" "_law_array_kind" (defArgs st_law_array_kind) (defBody st_law_array_kind) (defScope st_law_array_kind) .none kV28 dc28 pm28 an28 cd28 ct28), sl28⟩) (c28 : PySem.W.codeIn K cd28 "_law_array_kind" = true) (k28 : PySem.W.keepIn K (.ref f28) = true)
    (a29 : PySem.W.nsIn K mainGlobals "_law_names" = some (some (.ref f29)))
    (l29 : K.lookup f29 = some ⟨oc29, od29, .func (PySem.W.fnOf "_law_names" "_law_names" (defArgs st_law_names) (defBody st_law_names) (defScope st_law_names) .none kV29 dc29 pm29 an29 cd29 ct29), sl29⟩) (c29 : PySem.W.codeIn K cd29 "_law_names" = true) (k29 : PySem.W.keepIn K (.ref f29) = true)
    (a30 : PySem.W.nsIn K mainGlobals "_law_begun" = some (some (.ref f30)))
    (l30 : K.lookup f30 = some ⟨oc30, od30, .func (PySem.W.fnOf "_law_begun" "_law_begun" (defArgs st_law_begun) (defBody st_law_begun) (defScope st_law_begun) .none kV30 dc30 pm30 an30 cd30 ct30), sl30⟩) (c30 : PySem.W.codeIn K cd30 "_law_begun" = true) (k30 : PySem.W.keepIn K (.ref f30) = true)
    (a31 : PySem.W.nsIn K mainGlobals "_law_pick" = some (some (.ref f31)))
    (l31 : K.lookup f31 = some ⟨oc31, od31, .func (PySem.W.fnOf "_law_pick" "_law_pick" (defArgs st_law_pick) (defBody st_law_pick) (defScope st_law_pick) .none kV31 dc31 pm31 an31 cd31 ct31), sl31⟩) (c31 : PySem.W.codeIn K cd31 "_law_pick" = true) (k31 : PySem.W.keepIn K (.ref f31) = true)
    (a32 : PySem.W.nsIn K mainGlobals "_law_needs" = some (some (.ref f32)))
    (l32 : K.lookup f32 = some ⟨oc32, od32, .func (PySem.W.fnOf "_law_needs" "_law_needs" (defArgs st_law_needs) (defBody st_law_needs) (defScope st_law_needs) .none kV32 dc32 pm32 an32 cd32 ct32), sl32⟩) (c32 : PySem.W.codeIn K cd32 "_law_needs" = true) (k32 : PySem.W.keepIn K (.ref f32) = true)
    (a33 : PySem.W.nsIn K mainGlobals "_law_marks" = some (some (.ref f33)))
    (l33 : K.lookup f33 = some ⟨oc33, od33, .func (PySem.W.fnOf "_law_marks" "_law_marks" (defArgs st_law_marks) (defBody st_law_marks) (defScope st_law_marks) .none kV33 dc33 pm33 an33 cd33 ct33), sl33⟩) (c33 : PySem.W.codeIn K cd33 "_law_marks" = true) (k33 : PySem.W.keepIn K (.ref f33) = true)
    (a34 : PySem.W.nsIn K mainGlobals "_law_banked" = some (some (.ref f34)))
    (l34 : K.lookup f34 = some ⟨oc34, od34, .func (PySem.W.fnOf "_law_banked" "_law_banked" (defArgs st_law_banked) (defBody st_law_banked) (defScope st_law_banked) .none kV34 dc34 pm34 an34 cd34 ct34), sl34⟩) (c34 : PySem.W.codeIn K cd34 "_law_banked" = true) (k34 : PySem.W.keepIn K (.ref f34) = true)
    (a35 : PySem.W.nsIn K mainGlobals "_law_order" = some (some (.ref f35)))
    (l35 : K.lookup f35 = some ⟨oc35, od35, .func (PySem.W.fnOf "_law_order" "_law_order" (defArgs st_law_order) (defBody st_law_order) (defScope st_law_order) .none kV35 dc35 pm35 an35 cd35 ct35), sl35⟩) (c35 : PySem.W.codeIn K cd35 "_law_order" = true) (k35 : PySem.W.keepIn K (.ref f35) = true)
    (a36 : PySem.W.nsIn K mainGlobals "_law_moved" = some (some (.ref f36)))
    (l36 : K.lookup f36 = some ⟨oc36, od36, .func (PySem.W.fnOf "_law_moved" "_law_moved" (defArgs st_law_moved) (defBody st_law_moved) (defScope st_law_moved) .none kV36 dc36 pm36 an36 cd36 ct36), sl36⟩) (c36 : PySem.W.codeIn K cd36 "_law_moved" = true) (k36 : PySem.W.keepIn K (.ref f36) = true)
    (a37 : PySem.W.nsIn K mainGlobals "_law_kind" = some (some (.ref f37)))
    (l37 : K.lookup f37 = some ⟨oc37, od37, .func (PySem.W.fnOf "_law_kind" "_law_kind" (defArgs st_law_kind) (defBody st_law_kind) (defScope st_law_kind) .none kV37 dc37 pm37 an37 cd37 ct37), sl37⟩) (c37 : PySem.W.codeIn K cd37 "_law_kind" = true) (k37 : PySem.W.keepIn K (.ref f37) = true)
    (a38 : PySem.W.nsIn K mainGlobals "_law_good" = some (some (.ref f38)))
    (l38 : K.lookup f38 = some ⟨oc38, od38, .func (PySem.W.fnOf "_law_good" "_law_good" (defArgs st_law_good) (defBody st_law_good) (defScope st_law_good) .none kV38 dc38 pm38 an38 cd38 ct38), sl38⟩) (c38 : PySem.W.codeIn K cd38 "_law_good" = true) (k38 : PySem.W.keepIn K (.ref f38) = true)
    (a39 : PySem.W.nsIn K mainGlobals "_law_taken" = some (some (.ref f39)))
    (l39 : K.lookup f39 = some ⟨oc39, od39, .func (PySem.W.fnOf "_law_taken" "_law_taken" (defArgs st_law_taken) (defBody st_law_taken) (defScope st_law_taken) .none kV39 dc39 pm39 an39 cd39 ct39), sl39⟩) (c39 : PySem.W.codeIn K cd39 "_law_taken" = true) (k39 : PySem.W.keepIn K (.ref f39) = true)
    (a40 : PySem.W.nsIn K mainGlobals "law" = some (some (.ref f40)))
    (l40 : K.lookup f40 = some ⟨oc40, od40, .func (PySem.W.fnOf "law" "law" (defArgs stlaw) (defBody stlaw) (defScope stlaw) .none kV40 dc40 pm40 an40 cd40 ct40), sl40⟩) (c40 : PySem.W.codeIn K cd40 "law" = true) (k40 : PySem.W.keepIn K (.ref f40) = true)
    (aC0 : PySem.W.nsIn K mainGlobals "Bank" = some (some (.ref C0))) (pg0 : PySem.W.plainGet K C0 Str.empty = true) (hd0 : PySem.W.hasDictIn K C0 = true) (po0 : PySem.W.plainOver K C0 = true) (sa0 : PySem.W.findIn K (.ref C0) "__setattr__" = some (some (.builtin "object.__setattr__"))) (mk0 : PySem.W.makesIn K C0 = true) (kc0 : PySem.W.keepIn K (.ref C0) = true)
    (n0_0 : PySem.W.findIn K (.ref C0) "made" = some none)
    (n0_1 : PySem.W.findIn K (.ref C0) "sorts" = some none)
    (n0_2 : PySem.W.findIn K (.ref C0) "placed" = some none)
    (n0_3 : PySem.W.findIn K (.ref C0) "called" = some none)
    (gg0 : PySem.W.nsIn K mainGlobals "TRUTH" = some (some (.ref gA0))) (gl0 : K.lookup gA0 = some ⟨.type "tuple", go0, .seq #[.str "truth" gk0] gn0, gs0⟩)
    (gg1 : PySem.W.nsIn K mainGlobals "MOST_BITS" = some (some (.int 8 gk1)))
    (gg2 : PySem.W.nsIn K mainGlobals "MOST_PLACES" = some (some (.int 3 gk2)))
    (gg3 : PySem.W.nsIn K mainGlobals "MOST_LETTERS" = some (some (.int 8 gk3)))
    (gg4 : PySem.W.nsIn K mainGlobals "LETTERS" = some (some (.str "abcdefghijklmnopqrstuvwxyz" gk4)))
    (gt0 : PySem.W.nsIn K mainGlobals "RULES" = some (some (.ref T0))) (tl0 : K.lookup T0 = some ⟨.type "dict", none, .dict te0 td0, #[]⟩) (tk0 : PySem.W.KeysLit w.params te0.toList) (ty0 : (T0 == sysModules) = false) (tt0 : EsT te0.toList [("true", f2), ("false", f2), ("number", f3), ("not", f4), ("and", f5), ("or", f5), ("same", f6), ("less", f8), ("sless", f8), ("choose", f9), ("flip", f10), ("band", f7), ("bor", f7), ("bxor", f7), ("add", f7), ("sub", f7), ("mul", f7), ("div", f7), ("rest", f7), ("shl", f7), ("shr", f7), ("sar", f7), ("join", f11), ("cut", f12), ("read", f13), ("write", f14)])
    (z0 : PySem.W.nsIn K mainGlobals "all" = some none)
    (z1 : PySem.W.nsIn K mainGlobals "bool" = some none)
    (z2 : PySem.W.nsIn K mainGlobals "int" = some none)
    (z3 : PySem.W.nsIn K mainGlobals "isinstance" = some none)
    (z4 : PySem.W.nsIn K mainGlobals "len" = some none)
    (z5 : PySem.W.nsIn K mainGlobals "list" = some none)
    (z6 : PySem.W.nsIn K mainGlobals "max" = some none)
    (z7 : PySem.W.nsIn K mainGlobals "min" = some none)
    (z8 : PySem.W.nsIn K mainGlobals "range" = some none)
    (z9 : PySem.W.nsIn K mainGlobals "sorted" = some none)
    (z10 : PySem.W.nsIn K mainGlobals "str" = some none)
    (z11 : PySem.W.nsIn K mainGlobals "sum" = some none)
    (z12 : PySem.W.nsIn K mainGlobals "tuple" = some none) :
    ∃ fd : FuncData, (∀ (s : Shared) (v : Value), BindsTo s fd ⟨[v], []⟩ [("_law_script", v)]) ∧ ∀ base : Heap, K.In base → base.Ns mainGlobals mg → FnOk l.prog w K mg base CX0 7 fa fd ["_law_script"] (spLaw K) := by
  have e := hfa.symm.trans (PySem.W.mg_of X G a40)
  cases e
  have F0 := fun_mk (st := stis_whole) l0 c0 k0
  have b0 := F0.binds (ps := ["thing", "least", "most"]) fun _ _ _ _ _ _ us hl => match us, hl with | [_, _, _], _ => rfl
  have F1 := fun_mk (st := stas_kind) l1 c1 k1
  have b1 := F1.binds (ps := ["thing"]) fun _ _ _ _ _ _ us hl => match us, hl with | [_], _ => rfl
  have F2 := fun_mk (st := stof_nothing) l2 c2 k2
  have b2 := F2.binds (ps := ["kinds", "marks"]) fun _ _ _ _ _ _ us hl => match us, hl with | [_, _], _ => rfl
  have F3 := fun_mk (st := stof_marks) l3 c3 k3
  have b3 := F3.binds (ps := ["kinds", "marks"]) fun _ _ _ _ _ _ us hl => match us, hl with | [_, _], _ => rfl
  have F4 := fun_mk (st := stof_truth) l4 c4 k4
  have b4 := F4.binds (ps := ["kinds", "marks"]) fun _ _ _ _ _ _ us hl => match us, hl with | [_, _], _ => rfl
  have F5 := fun_mk (st := stof_truths) l5 c5 k5
  have b5 := F5.binds (ps := ["kinds", "marks"]) fun _ _ _ _ _ _ us hl => match us, hl with | [_, _], _ => rfl
  have F6 := fun_mk (st := stof_alike) l6 c6 k6
  have b6 := F6.binds (ps := ["kinds", "marks"]) fun _ _ _ _ _ _ us hl => match us, hl with | [_, _], _ => rfl
  have F7 := fun_mk (st := stof_words) l7 c7 k7
  have b7 := F7.binds (ps := ["kinds", "marks"]) fun _ _ _ _ _ _ us hl => match us, hl with | [_, _], _ => rfl
  have F8 := fun_mk (st := stof_less) l8 c8 k8
  have b8 := F8.binds (ps := ["kinds", "marks"]) fun _ _ _ _ _ _ us hl => match us, hl with | [_, _], _ => rfl
  have F9 := fun_mk (st := stof_choice) l9 c9 k9
  have b9 := F9.binds (ps := ["kinds", "marks"]) fun _ _ _ _ _ _ us hl => match us, hl with | [_, _], _ => rfl
  have F10 := fun_mk (st := stof_word) l10 c10 k10
  have b10 := F10.binds (ps := ["kinds", "marks"]) fun _ _ _ _ _ _ us hl => match us, hl with | [_, _], _ => rfl
  have F11 := fun_mk (st := stof_joined) l11 c11 k11
  have b11 := F11.binds (ps := ["kinds", "marks"]) fun _ _ _ _ _ _ us hl => match us, hl with | [_, _], _ => rfl
  have F12 := fun_mk (st := stof_cut) l12 c12 k12
  have b12 := F12.binds (ps := ["kinds", "marks"]) fun _ _ _ _ _ _ us hl => match us, hl with | [_, _], _ => rfl
  have F13 := fun_mk (st := stof_read) l13 c13 k13
  have b13 := F13.binds (ps := ["kinds", "marks"]) fun _ _ _ _ _ _ us hl => match us, hl with | [_, _], _ => rfl
  have F14 := fun_mk (st := stof_written) l14 c14 k14
  have b14 := F14.binds (ps := ["kinds", "marks"]) fun _ _ _ _ _ _ us hl => match us, hl with | [_, _], _ => rfl
  have F15 := fun_mk (st := stkind_by) l15 c15 k15
  have b15 := F15.binds (ps := ["word", "kinds", "marks"]) fun _ _ _ _ _ _ us hl => match us, hl with | [_, _, _], _ => rfl
  have F16 := fun_mk (st := stis_name) l16 c16 k16
  have b16 := F16.binds (ps := ["text"]) fun _ _ _ _ _ _ us hl => match us, hl with | [_], _ => rfl
  have F17 := fun_mk (st := stneed_term) l17 c17 k17
  have b17 := F17.binds (ps := ["bank", "term"]) fun _ _ _ _ _ _ us hl => match us, hl with | [_, _], _ => rfl
  have F18 := fun_mk (st := stput_in) l18 c18 k18
  have b18 := F18.binds (ps := ["bank", "made", "sort"]) fun _ _ _ _ _ _ us hl => match us, hl with | [_, _, _], _ => rfl
  have F19 := fun_mk (st := stBank_DinitD) l19 c19 k19
  have b19 := F19.binds (ps := ["self"]) fun _ _ _ _ _ _ us hl => match us, hl with | [_], _ => rfl
  have F20 : FunD K "make" "Bank.make" (defArgs stBank_make) (defBody stBank_make) (defScope stBank_make) [V.ref kE20] [("marks", V.ref kM20)] f20 (PySem.W.fnOf "make" "Bank.make" (defArgs stBank_make) (defBody stBank_make) (defScope stBank_make) (.ref kT20) (.ref kD20) dc20 pm20 an20 cd20 ct20) := ⟨⟨oc20, od20, .ref kT20, (.ref kD20), dc20, pm20, an20, cd20, ct20, sl20, rfl, l20, c20, .inr ⟨by simp, kT20, _, [.ref kE20], tn20, rfl, q20, rfl, .cons rfl .nil⟩, .inr ⟨kD20, rfl, fun q hq => by simp only [List.mem_singleton] at hq; subst hq; exact ⟨_, p20, rfl⟩⟩⟩, k20⟩
  obtain ⟨it20_3_m, mv20_3_m, b20_3_m⟩ := FunD.kbinds (ps := ["self", "word", "parts", "marks"]) F20 3 ["marks"] [] (fun {α} us its mv ws => us ++ ws) (by simp) (by simp) (fun q hq => by simpa using hq) (fun r1 r2 r3 r4 => r1.append r4) fun _ _ _ _ _ _ _ us its mv ws h1 h2 h3 h4 => match us, its, mv, ws, h1, h2, h3, h4 with | [_, _, _], [_], [], [_], _, _, _, _ => ⟨_, rfl, rfl⟩
  have F21 := fun_mk (st := stBank_name) l21 c21 k21
  have b21 := F21.binds (ps := ["self", "text", "kind"]) fun _ _ _ _ _ _ us hl => match us, hl with | [_, _, _], _ => rfl
  have F22 := fun_mk (st := stBank_kind) l22 c22 k22
  have b22 := F22.binds (ps := ["self", "term"]) fun _ _ _ _ _ _ us hl => match us, hl with | [_, _], _ => rfl
  have F23 := fun_mk (st := stBank_node) l23 c23 k23
  have b23 := F23.binds (ps := ["self", "term"]) fun _ _ _ _ _ _ us hl => match us, hl with | [_, _], _ => rfl
  have F24 := fun_mk (st := stBank_DlenD) l24 c24 k24
  have b24 := F24.binds (ps := ["self"]) fun _ _ _ _ _ _ us hl => match us, hl with | [_], _ => rfl
  have F25 := fun_mk (st := st_law_reel) l25 c25 k25
  have b25 := F25.binds (ps := ["_law_script"]) fun _ _ _ _ _ _ us hl => match us, hl with | [_], _ => rfl
  have F26 := fun_mk (st := st_law_draw) l26 c26 k26
  have b26 := F26.binds (ps := ["_law_reel_here", "_law_many"]) fun _ _ _ _ _ _ us hl => match us, hl with | [_, _], _ => rfl
  have F27 := fun_mk (st := st_law_words) l27 c27 k27
  have b27 := F27.binds (ps := []) fun _ _ _ _ _ _ us hl => match us, hl with | [], _ => rfl
  have F28 := fun_mk (st := st_law_array_kind) l28 c28 k28
  have b28 := F28.binds (ps := ["_law_word", "_law_kinds"]) fun _ _ _ _ _ _ us hl => match us, hl with | [_, _], _ => rfl
  have F29 := fun_mk (st := st_law_names) l29 c29 k29
  have b29 := F29.binds (ps := ["_law_reel_here"]) fun _ _ _ _ _ _ us hl => match us, hl with | [_], _ => rfl
  have F30 := fun_mk (st := st_law_begun) l30 c30 k30
  have b30 := F30.binds (ps := ["_law_reel_here"]) fun _ _ _ _ _ _ us hl => match us, hl with | [_], _ => rfl
  have F31 := fun_mk (st := st_law_pick) l31 c31 k31
  have b31 := F31.binds (ps := ["_law_reel_here", "_law_model", "_law_kind_here"]) fun _ _ _ _ _ _ us hl => match us, hl with | [_, _, _], _ => rfl
  have F32 := fun_mk (st := st_law_needs) l32 c32 k32
  have b32 := F32.binds (ps := ["_law_reel_here", "_law_model", "_law_word"]) fun _ _ _ _ _ _ us hl => match us, hl with | [_, _, _], _ => rfl
  have F33 := fun_mk (st := st_law_marks) l33 c33 k33
  have b33 := F33.binds (ps := ["_law_reel_here", "_law_word", "_law_kinds"]) fun _ _ _ _ _ _ us hl => match us, hl with | [_, _, _], _ => rfl
  have F34 := fun_mk (st := st_law_banked) l34 c34 k34
  have b34 := F34.binds (ps := ["_law_model"]) fun _ _ _ _ _ _ us hl => match us, hl with | [_], _ => rfl
  have F35 := fun_mk (st := st_law_order) l35 c35 k35
  have b35 := F35.binds (ps := ["_law_reel_here", "_law_model"]) fun _ _ _ _ _ _ us hl => match us, hl with | [_, _], _ => rfl
  have F36 := fun_mk (st := st_law_moved) l36 c36 k36
  have b36 := F36.binds (ps := ["_law_bank", "_law_model", "_law_order_here"]) fun _ _ _ _ _ _ us hl => match us, hl with | [_, _, _], _ => rfl
  have F37 := fun_mk (st := st_law_kind) l37 c37 k37
  have b37 := F37.binds (ps := ["_law_word", "_law_kinds", "_law_tags"]) fun _ _ _ _ _ _ us hl => match us, hl with | [_, _, _], _ => rfl
  have F38 := fun_mk (st := st_law_good) l38 c38 k38
  have b38 := F38.binds (ps := ["_law_reel_here", "_law_model"]) fun _ _ _ _ _ _ us hl => match us, hl with | [_, _], _ => rfl
  have F39 := fun_mk (st := st_law_taken) l39 c39 k39
  have b39 := F39.binds (ps := ["_law_model", "_law_node"]) fun _ _ _ _ _ _ us hl => match us, hl with | [_, _], _ => rfl
  have F40 := fun_mk (st := stlaw) l40 c40 k40
  have b40 := F40.binds (ps := ["_law_script"]) fun _ _ _ _ _ _ us hl => match us, hl with | [_], _ => rfl
  have T : ClD ⟨K, fun _ => NBank, w⟩ mg ⟨C0, T0, f2, f3, f4, f5, f6, f8, f9, f10, f7, f11, f12, f13, f14⟩ := ⟨⟨⟨pg0, hd0, po0, sa0⟩, rfl, by decide +kernel, fun f hf => by
    simp only [NBank, List.mem_cons, List.not_mem_nil, or_false] at hf
    rcases hf with rfl | rfl | rfl | rfl
    · exact n0_0
    · exact n0_1
    · exact n0_2
    · exact n0_3⟩,
    gl_tup1 (PySem.W.mg_of X G gg0) gl0,
    gl_int (PySem.W.mg_of X G gg1),
    gl_int (PySem.W.mg_of X G gg2),
    gl_int (PySem.W.mg_of X G gg3),
    gl_str (PySem.W.mg_of X G gg4),
    gl_raw (PySem.W.mg_of X G gt0),
    tab_of tl0 tk0 ty0 tt0⟩
  have B : Bl mg := ⟨PySem.W.mg_none_of X G z0, PySem.W.mg_none_of X G z1, PySem.W.mg_none_of X G z2, PySem.W.mg_none_of X G z3, PySem.W.mg_none_of X G z4, PySem.W.mg_none_of X G z5, PySem.W.mg_none_of X G z6, PySem.W.mg_none_of X G z7, PySem.W.mg_none_of X G z8, PySem.W.mg_none_of X G z9, PySem.W.mg_none_of X G z10, PySem.W.mg_none_of X G z11, PySem.W.mg_none_of X G z12⟩
  have U0 : ∀ base, Cal l.prog w ⟨K, fun _ => NBank, w⟩ mg base 1 "is_whole" (spis_whole ⟨C0, T0, f2, f3, f4, f5, f6, f8, f9, f10, f7, f11, f12, f13, f14⟩) := fun base => ⟨_, _, _, fnis_whole (G := ⟨K, fun _ => NBank, w⟩) (c := ⟨C0, T0, f2, f3, f4, f5, f6, f8, f9, f10, f7, f11, f12, f13, f14⟩) rfl B T  F0, PySem.W.mg_of X G a0, k0, b0⟩
  have U1 : ∀ base, Cal l.prog w ⟨K, fun _ => NBank, w⟩ mg base 2 "as_kind" (spas_kind ⟨C0, T0, f2, f3, f4, f5, f6, f8, f9, f10, f7, f11, f12, f13, f14⟩) := fun base => ⟨_, _, _, fnas_kind (G := ⟨K, fun _ => NBank, w⟩) (c := ⟨C0, T0, f2, f3, f4, f5, f6, f8, f9, f10, f7, f11, f12, f13, f14⟩) rfl B T (U0 base) F1, PySem.W.mg_of X G a1, k1, b1⟩
  have U2 : ∀ base, Cal l.prog w ⟨K, fun _ => NBank, w⟩ mg base 1 "of_nothing" (spof_nothing ⟨C0, T0, f2, f3, f4, f5, f6, f8, f9, f10, f7, f11, f12, f13, f14⟩) := fun base => ⟨_, _, _, fnof_nothing (G := ⟨K, fun _ => NBank, w⟩) (c := ⟨C0, T0, f2, f3, f4, f5, f6, f8, f9, f10, f7, f11, f12, f13, f14⟩) rfl B T  F2, PySem.W.mg_of X G a2, k2, b2⟩
  have U3 : ∀ base, Cal l.prog w ⟨K, fun _ => NBank, w⟩ mg base 2 "of_marks" (spof_marks ⟨C0, T0, f2, f3, f4, f5, f6, f8, f9, f10, f7, f11, f12, f13, f14⟩) := fun base => ⟨_, _, _, fnof_marks (G := ⟨K, fun _ => NBank, w⟩) (c := ⟨C0, T0, f2, f3, f4, f5, f6, f8, f9, f10, f7, f11, f12, f13, f14⟩) rfl B T (U0 base) F3, PySem.W.mg_of X G a3, k3, b3⟩
  have U4 : ∀ base, Cal l.prog w ⟨K, fun _ => NBank, w⟩ mg base 1 "of_truth" (spof_truth ⟨C0, T0, f2, f3, f4, f5, f6, f8, f9, f10, f7, f11, f12, f13, f14⟩) := fun base => ⟨_, _, _, fnof_truth (G := ⟨K, fun _ => NBank, w⟩) (c := ⟨C0, T0, f2, f3, f4, f5, f6, f8, f9, f10, f7, f11, f12, f13, f14⟩) rfl B T  F4, PySem.W.mg_of X G a4, k4, b4⟩
  have U5 : ∀ base, Cal l.prog w ⟨K, fun _ => NBank, w⟩ mg base 1 "of_truths" (spof_truths ⟨C0, T0, f2, f3, f4, f5, f6, f8, f9, f10, f7, f11, f12, f13, f14⟩) := fun base => ⟨_, _, _, fnof_truths (G := ⟨K, fun _ => NBank, w⟩) (c := ⟨C0, T0, f2, f3, f4, f5, f6, f8, f9, f10, f7, f11, f12, f13, f14⟩) rfl B T  F5, PySem.W.mg_of X G a5, k5, b5⟩
  have U6 : ∀ base, Cal l.prog w ⟨K, fun _ => NBank, w⟩ mg base 1 "of_alike" (spof_alike ⟨C0, T0, f2, f3, f4, f5, f6, f8, f9, f10, f7, f11, f12, f13, f14⟩) := fun base => ⟨_, _, _, fnof_alike (G := ⟨K, fun _ => NBank, w⟩) (c := ⟨C0, T0, f2, f3, f4, f5, f6, f8, f9, f10, f7, f11, f12, f13, f14⟩) rfl B T  F6, PySem.W.mg_of X G a6, k6, b6⟩
  have U7 : ∀ base, Cal l.prog w ⟨K, fun _ => NBank, w⟩ mg base 2 "of_words" (spof_words ⟨C0, T0, f2, f3, f4, f5, f6, f8, f9, f10, f7, f11, f12, f13, f14⟩) := fun base => ⟨_, _, _, fnof_words (G := ⟨K, fun _ => NBank, w⟩) (c := ⟨C0, T0, f2, f3, f4, f5, f6, f8, f9, f10, f7, f11, f12, f13, f14⟩) rfl B T (U6 base) F7, PySem.W.mg_of X G a7, k7, b7⟩
  have U8 : ∀ base, Cal l.prog w ⟨K, fun _ => NBank, w⟩ mg base 3 "of_less" (spof_less ⟨C0, T0, f2, f3, f4, f5, f6, f8, f9, f10, f7, f11, f12, f13, f14⟩) := fun base => ⟨_, _, _, fnof_less (G := ⟨K, fun _ => NBank, w⟩) (c := ⟨C0, T0, f2, f3, f4, f5, f6, f8, f9, f10, f7, f11, f12, f13, f14⟩) rfl B T (U7 base) F8, PySem.W.mg_of X G a8, k8, b8⟩
  have U9 : ∀ base, Cal l.prog w ⟨K, fun _ => NBank, w⟩ mg base 2 "of_choice" (spof_choice ⟨C0, T0, f2, f3, f4, f5, f6, f8, f9, f10, f7, f11, f12, f13, f14⟩) := fun base => ⟨_, _, _, fnof_choice (G := ⟨K, fun _ => NBank, w⟩) (c := ⟨C0, T0, f2, f3, f4, f5, f6, f8, f9, f10, f7, f11, f12, f13, f14⟩) rfl B T (U6 base) F9, PySem.W.mg_of X G a9, k9, b9⟩
  have U10 : ∀ base, Cal l.prog w ⟨K, fun _ => NBank, w⟩ mg base 1 "of_word" (spof_word ⟨C0, T0, f2, f3, f4, f5, f6, f8, f9, f10, f7, f11, f12, f13, f14⟩) := fun base => ⟨_, _, _, fnof_word (G := ⟨K, fun _ => NBank, w⟩) (c := ⟨C0, T0, f2, f3, f4, f5, f6, f8, f9, f10, f7, f11, f12, f13, f14⟩) rfl B T  F10, PySem.W.mg_of X G a10, k10, b10⟩
  have U11 : ∀ base, Cal l.prog w ⟨K, fun _ => NBank, w⟩ mg base 1 "of_joined" (spof_joined ⟨C0, T0, f2, f3, f4, f5, f6, f8, f9, f10, f7, f11, f12, f13, f14⟩) := fun base => ⟨_, _, _, fnof_joined (G := ⟨K, fun _ => NBank, w⟩) (c := ⟨C0, T0, f2, f3, f4, f5, f6, f8, f9, f10, f7, f11, f12, f13, f14⟩) rfl B T  F11, PySem.W.mg_of X G a11, k11, b11⟩
  have U12 : ∀ base, Cal l.prog w ⟨K, fun _ => NBank, w⟩ mg base 2 "of_cut" (spof_cut ⟨C0, T0, f2, f3, f4, f5, f6, f8, f9, f10, f7, f11, f12, f13, f14⟩) := fun base => ⟨_, _, _, fnof_cut (G := ⟨K, fun _ => NBank, w⟩) (c := ⟨C0, T0, f2, f3, f4, f5, f6, f8, f9, f10, f7, f11, f12, f13, f14⟩) rfl B T (U10 base) (U0 base) F12, PySem.W.mg_of X G a12, k12, b12⟩
  have U13 : ∀ base, Cal l.prog w ⟨K, fun _ => NBank, w⟩ mg base 1 "of_read" (spof_read ⟨C0, T0, f2, f3, f4, f5, f6, f8, f9, f10, f7, f11, f12, f13, f14⟩) := fun base => ⟨_, _, _, fnof_read (G := ⟨K, fun _ => NBank, w⟩) (c := ⟨C0, T0, f2, f3, f4, f5, f6, f8, f9, f10, f7, f11, f12, f13, f14⟩) rfl B T  F13, PySem.W.mg_of X G a13, k13, b13⟩
  have U14 : ∀ base, Cal l.prog w ⟨K, fun _ => NBank, w⟩ mg base 2 "of_written" (spof_written ⟨C0, T0, f2, f3, f4, f5, f6, f8, f9, f10, f7, f11, f12, f13, f14⟩) := fun base => ⟨_, _, _, fnof_written (G := ⟨K, fun _ => NBank, w⟩) (c := ⟨C0, T0, f2, f3, f4, f5, f6, f8, f9, f10, f7, f11, f12, f13, f14⟩) rfl B T (U13 base) F14, PySem.W.mg_of X G a14, k14, b14⟩
  have ATRULES_3 : ∀ base, ∀ q ∈ cbRULES ⟨C0, T0, f2, f3, f4, f5, f6, f8, f9, f10, f7, f11, f12, f13, f14⟩, CalT l.prog w ⟨K, fun _ => NBank, w⟩ mg base 3 q.1 q.2 := by
    intro base q hq
    simp only [cbRULES, List.mem_cons, List.not_mem_nil, or_false] at hq
    rcases hq with rfl | rfl | rfl | rfl | rfl | rfl | rfl | rfl | rfl | rfl | rfl | rfl | rfl
    · exact ⟨_, _, (FnOk.mono (fnof_nothing (G := ⟨K, fun _ => NBank, w⟩) (c := ⟨C0, T0, f2, f3, f4, f5, f6, f8, f9, f10, f7, f11, f12, f13, f14⟩) rfl B T  F2) (by decide)), k2, b2⟩
    · exact ⟨_, _, (FnOk.mono (fnof_marks (G := ⟨K, fun _ => NBank, w⟩) (c := ⟨C0, T0, f2, f3, f4, f5, f6, f8, f9, f10, f7, f11, f12, f13, f14⟩) rfl B T (U0 base) F3) (by decide)), k3, b3⟩
    · exact ⟨_, _, (FnOk.mono (fnof_truth (G := ⟨K, fun _ => NBank, w⟩) (c := ⟨C0, T0, f2, f3, f4, f5, f6, f8, f9, f10, f7, f11, f12, f13, f14⟩) rfl B T  F4) (by decide)), k4, b4⟩
    · exact ⟨_, _, (FnOk.mono (fnof_truths (G := ⟨K, fun _ => NBank, w⟩) (c := ⟨C0, T0, f2, f3, f4, f5, f6, f8, f9, f10, f7, f11, f12, f13, f14⟩) rfl B T  F5) (by decide)), k5, b5⟩
    · exact ⟨_, _, (FnOk.mono (fnof_alike (G := ⟨K, fun _ => NBank, w⟩) (c := ⟨C0, T0, f2, f3, f4, f5, f6, f8, f9, f10, f7, f11, f12, f13, f14⟩) rfl B T  F6) (by decide)), k6, b6⟩
    · exact ⟨_, _, (FnOk.mono (fnof_less (G := ⟨K, fun _ => NBank, w⟩) (c := ⟨C0, T0, f2, f3, f4, f5, f6, f8, f9, f10, f7, f11, f12, f13, f14⟩) rfl B T (U7 base) F8) (by decide)), k8, b8⟩
    · exact ⟨_, _, (FnOk.mono (fnof_choice (G := ⟨K, fun _ => NBank, w⟩) (c := ⟨C0, T0, f2, f3, f4, f5, f6, f8, f9, f10, f7, f11, f12, f13, f14⟩) rfl B T (U6 base) F9) (by decide)), k9, b9⟩
    · exact ⟨_, _, (FnOk.mono (fnof_word (G := ⟨K, fun _ => NBank, w⟩) (c := ⟨C0, T0, f2, f3, f4, f5, f6, f8, f9, f10, f7, f11, f12, f13, f14⟩) rfl B T  F10) (by decide)), k10, b10⟩
    · exact ⟨_, _, (FnOk.mono (fnof_words (G := ⟨K, fun _ => NBank, w⟩) (c := ⟨C0, T0, f2, f3, f4, f5, f6, f8, f9, f10, f7, f11, f12, f13, f14⟩) rfl B T (U6 base) F7) (by decide)), k7, b7⟩
    · exact ⟨_, _, (FnOk.mono (fnof_joined (G := ⟨K, fun _ => NBank, w⟩) (c := ⟨C0, T0, f2, f3, f4, f5, f6, f8, f9, f10, f7, f11, f12, f13, f14⟩) rfl B T  F11) (by decide)), k11, b11⟩
    · exact ⟨_, _, (FnOk.mono (fnof_cut (G := ⟨K, fun _ => NBank, w⟩) (c := ⟨C0, T0, f2, f3, f4, f5, f6, f8, f9, f10, f7, f11, f12, f13, f14⟩) rfl B T (U10 base) (U0 base) F12) (by decide)), k12, b12⟩
    · exact ⟨_, _, (FnOk.mono (fnof_read (G := ⟨K, fun _ => NBank, w⟩) (c := ⟨C0, T0, f2, f3, f4, f5, f6, f8, f9, f10, f7, f11, f12, f13, f14⟩) rfl B T  F13) (by decide)), k13, b13⟩
    · exact ⟨_, _, (FnOk.mono (fnof_written (G := ⟨K, fun _ => NBank, w⟩) (c := ⟨C0, T0, f2, f3, f4, f5, f6, f8, f9, f10, f7, f11, f12, f13, f14⟩) rfl B T (U13 base) F14) (by decide)), k14, b14⟩
  have U15 : ∀ base, Cal l.prog w ⟨K, fun _ => NBank, w⟩ mg base 4 "kind_by" (spkind_by ⟨C0, T0, f2, f3, f4, f5, f6, f8, f9, f10, f7, f11, f12, f13, f14⟩) := fun base => ⟨_, _, _, fnkind_by (G := ⟨K, fun _ => NBank, w⟩) (c := ⟨C0, T0, f2, f3, f4, f5, f6, f8, f9, f10, f7, f11, f12, f13, f14⟩) rfl B T (ATRULES_3 base) F15, PySem.W.mg_of X G a15, k15, b15⟩
  have U16 : ∀ base, Cal l.prog w ⟨K, fun _ => NBank, w⟩ mg base 1 "is_name" (spis_name ⟨C0, T0, f2, f3, f4, f5, f6, f8, f9, f10, f7, f11, f12, f13, f14⟩) := fun base => ⟨_, _, _, fnis_name (G := ⟨K, fun _ => NBank, w⟩) (c := ⟨C0, T0, f2, f3, f4, f5, f6, f8, f9, f10, f7, f11, f12, f13, f14⟩) rfl B T  F16, PySem.W.mg_of X G a16, k16, b16⟩
  have U17 : ∀ base, Cal l.prog w ⟨K, fun _ => NBank, w⟩ mg base 2 "need_term" (spneed_term ⟨C0, T0, f2, f3, f4, f5, f6, f8, f9, f10, f7, f11, f12, f13, f14⟩) := fun base => ⟨_, _, _, fnneed_term (G := ⟨K, fun _ => NBank, w⟩) (c := ⟨C0, T0, f2, f3, f4, f5, f6, f8, f9, f10, f7, f11, f12, f13, f14⟩) rfl B T (U0 base) F17, PySem.W.mg_of X G a17, k17, b17⟩
  have U18 : ∀ base, Cal l.prog w ⟨K, fun _ => NBank, w⟩ mg base 1 "put_in" (spput_in ⟨C0, T0, f2, f3, f4, f5, f6, f8, f9, f10, f7, f11, f12, f13, f14⟩) := fun base => ⟨_, _, _, fnput_in (G := ⟨K, fun _ => NBank, w⟩) (c := ⟨C0, T0, f2, f3, f4, f5, f6, f8, f9, f10, f7, f11, f12, f13, f14⟩) rfl B T  F18, PySem.W.mg_of X G a18, k18, b18⟩
  have U19 : ∀ base, CalI l.prog w ⟨K, fun _ => NBank, w⟩ mg base 1 C0 "Bank" (spBank_DinitD ⟨C0, T0, f2, f3, f4, f5, f6, f8, f9, f10, f7, f11, f12, f13, f14⟩) := fun base => ⟨_, _, _, fnBank_DinitD (G := ⟨K, fun _ => NBank, w⟩) (c := ⟨C0, T0, f2, f3, f4, f5, f6, f8, f9, f10, f7, f11, f12, f13, f14⟩) rfl B T  F19, ⟨mk0, a19, i19, kc0⟩, PySem.W.mg_of X G aC0, b19⟩
  have UG20_3_m : ∀ base, CalG l.prog w ⟨K, fun _ => NBank, w⟩ mg base 5 C0 NBank "make" 3 ["marks"] [] [] (spBank_make ⟨C0, T0, f2, f3, f4, f5, f6, f8, f9, f10, f7, f11, f12, f13, f14⟩) := fun base => ⟨T.Bank, by decide +kernel, _, _, _, _, _, fnBank_make (G := ⟨K, fun _ => NBank, w⟩) (c := ⟨C0, T0, f2, f3, f4, f5, f6, f8, f9, f10, f7, f11, f12, f13, f14⟩) rfl B T (U17 base) (U15 base) (U18 base) F20, ⟨a20, i20, k20⟩, b20_3_m, fun W H ds vs zs us r1 r2 => by
    rw [List.append_nil, List.append_nil]
    exact r1.append r2⟩
  have U21 : ∀ base, CalM l.prog w ⟨K, fun _ => NBank, w⟩ mg base 3 C0 NBank "name" (spBank_name ⟨C0, T0, f2, f3, f4, f5, f6, f8, f9, f10, f7, f11, f12, f13, f14⟩) := fun base => ⟨T.Bank, by decide +kernel, _, _, _, fnBank_name (G := ⟨K, fun _ => NBank, w⟩) (c := ⟨C0, T0, f2, f3, f4, f5, f6, f8, f9, f10, f7, f11, f12, f13, f14⟩) rfl B T (U1 base) (U16 base) (U18 base) F21, ⟨a21, i21, k21⟩, b21⟩
  have U22 : ∀ base, CalM l.prog w ⟨K, fun _ => NBank, w⟩ mg base 3 C0 NBank "kind" (spBank_kind ⟨C0, T0, f2, f3, f4, f5, f6, f8, f9, f10, f7, f11, f12, f13, f14⟩) := fun base => ⟨T.Bank, by decide +kernel, _, _, _, fnBank_kind (G := ⟨K, fun _ => NBank, w⟩) (c := ⟨C0, T0, f2, f3, f4, f5, f6, f8, f9, f10, f7, f11, f12, f13, f14⟩) rfl B T (U17 base) F22, ⟨a22, i22, k22⟩, b22⟩
  have U23 : ∀ base, CalM l.prog w ⟨K, fun _ => NBank, w⟩ mg base 3 C0 NBank "node" (spBank_node ⟨C0, T0, f2, f3, f4, f5, f6, f8, f9, f10, f7, f11, f12, f13, f14⟩) := fun base => ⟨T.Bank, by decide +kernel, _, _, _, fnBank_node (G := ⟨K, fun _ => NBank, w⟩) (c := ⟨C0, T0, f2, f3, f4, f5, f6, f8, f9, f10, f7, f11, f12, f13, f14⟩) rfl B T (U17 base) F23, ⟨a23, i23, k23⟩, b23⟩
  have U24 : ∀ base, CalM l.prog w ⟨K, fun _ => NBank, w⟩ mg base 1 C0 NBank "__len__" (spBank_DlenD ⟨C0, T0, f2, f3, f4, f5, f6, f8, f9, f10, f7, f11, f12, f13, f14⟩) := fun base => ⟨T.Bank, by decide +kernel, _, _, _, fnBank_DlenD (G := ⟨K, fun _ => NBank, w⟩) (c := ⟨C0, T0, f2, f3, f4, f5, f6, f8, f9, f10, f7, f11, f12, f13, f14⟩) rfl B T  F24, ⟨a24, i24, k24⟩, b24⟩
  have U25 : ∀ base, Cal l.prog w ⟨K, fun _ => NBank, w⟩ mg base 1 "_law_reel" (sp_law_reel ⟨C0, T0, f2, f3, f4, f5, f6, f8, f9, f10, f7, f11, f12, f13, f14⟩) := fun base => ⟨_, _, _, fn_law_reel (G := ⟨K, fun _ => NBank, w⟩) (c := ⟨C0, T0, f2, f3, f4, f5, f6, f8, f9, f10, f7, f11, f12, f13, f14⟩) rfl B T  F25, PySem.W.mg_of X G a25, k25, b25⟩
  have U26 : ∀ base, Cal l.prog w ⟨K, fun _ => NBank, w⟩ mg base 1 "_law_draw" (sp_law_draw ⟨C0, T0, f2, f3, f4, f5, f6, f8, f9, f10, f7, f11, f12, f13, f14⟩) := fun base => ⟨_, _, _, fn_law_draw (G := ⟨K, fun _ => NBank, w⟩) (c := ⟨C0, T0, f2, f3, f4, f5, f6, f8, f9, f10, f7, f11, f12, f13, f14⟩) rfl B T  F26, PySem.W.mg_of X G a26, k26, b26⟩
  have U27 : ∀ base, Cal l.prog w ⟨K, fun _ => NBank, w⟩ mg base 1 "_law_words" (sp_law_words ⟨C0, T0, f2, f3, f4, f5, f6, f8, f9, f10, f7, f11, f12, f13, f14⟩) := fun base => ⟨_, _, _, fn_law_words (G := ⟨K, fun _ => NBank, w⟩) (c := ⟨C0, T0, f2, f3, f4, f5, f6, f8, f9, f10, f7, f11, f12, f13, f14⟩) rfl B T  F27, PySem.W.mg_of X G a27, k27, b27⟩
  have U28 : ∀ base, Cal l.prog w ⟨K, fun _ => NBank, w⟩ mg base 1 "_law_array_kind" (sp_law_array_kind ⟨C0, T0, f2, f3, f4, f5, f6, f8, f9, f10, f7, f11, f12, f13, f14⟩) := fun base => ⟨_, _, _, fn_law_array_kind (G := ⟨K, fun _ => NBank, w⟩) (c := ⟨C0, T0, f2, f3, f4, f5, f6, f8, f9, f10, f7, f11, f12, f13, f14⟩) rfl B T  F28, PySem.W.mg_of X G a28, k28, b28⟩
  have U29 : ∀ base, Cal l.prog w ⟨K, fun _ => NBank, w⟩ mg base 2 "_law_names" (sp_law_names ⟨C0, T0, f2, f3, f4, f5, f6, f8, f9, f10, f7, f11, f12, f13, f14⟩) := fun base => ⟨_, _, _, fn_law_names (G := ⟨K, fun _ => NBank, w⟩) (c := ⟨C0, T0, f2, f3, f4, f5, f6, f8, f9, f10, f7, f11, f12, f13, f14⟩) rfl B T (U26 base) F29, PySem.W.mg_of X G a29, k29, b29⟩
  have U30 : ∀ base, Cal l.prog w ⟨K, fun _ => NBank, w⟩ mg base 3 "_law_begun" (sp_law_begun ⟨C0, T0, f2, f3, f4, f5, f6, f8, f9, f10, f7, f11, f12, f13, f14⟩) := fun base => ⟨_, _, _, fn_law_begun (G := ⟨K, fun _ => NBank, w⟩) (c := ⟨C0, T0, f2, f3, f4, f5, f6, f8, f9, f10, f7, f11, f12, f13, f14⟩) rfl B T (U29 base) F30, PySem.W.mg_of X G a30, k30, b30⟩
  have U31 : ∀ base, Cal l.prog w ⟨K, fun _ => NBank, w⟩ mg base 2 "_law_pick" (sp_law_pick ⟨C0, T0, f2, f3, f4, f5, f6, f8, f9, f10, f7, f11, f12, f13, f14⟩) := fun base => ⟨_, _, _, fn_law_pick (G := ⟨K, fun _ => NBank, w⟩) (c := ⟨C0, T0, f2, f3, f4, f5, f6, f8, f9, f10, f7, f11, f12, f13, f14⟩) rfl B T (U26 base) F31, PySem.W.mg_of X G a31, k31, b31⟩
  have U32 : ∀ base, Cal l.prog w ⟨K, fun _ => NBank, w⟩ mg base 2 "_law_needs" (sp_law_needs ⟨C0, T0, f2, f3, f4, f5, f6, f8, f9, f10, f7, f11, f12, f13, f14⟩) := fun base => ⟨_, _, _, fn_law_needs (G := ⟨K, fun _ => NBank, w⟩) (c := ⟨C0, T0, f2, f3, f4, f5, f6, f8, f9, f10, f7, f11, f12, f13, f14⟩) rfl B T (U26 base) F32, PySem.W.mg_of X G a32, k32, b32⟩
  have U33 : ∀ base, Cal l.prog w ⟨K, fun _ => NBank, w⟩ mg base 2 "_law_marks" (sp_law_marks ⟨C0, T0, f2, f3, f4, f5, f6, f8, f9, f10, f7, f11, f12, f13, f14⟩) := fun base => ⟨_, _, _, fn_law_marks (G := ⟨K, fun _ => NBank, w⟩) (c := ⟨C0, T0, f2, f3, f4, f5, f6, f8, f9, f10, f7, f11, f12, f13, f14⟩) rfl B T (U26 base) F33, PySem.W.mg_of X G a33, k33, b33⟩
  have U34 : ∀ base, Cal l.prog w ⟨K, fun _ => NBank, w⟩ mg base 4 "_law_banked" (sp_law_banked ⟨C0, T0, f2, f3, f4, f5, f6, f8, f9, f10, f7, f11, f12, f13, f14⟩) := fun base => ⟨_, _, _, fn_law_banked (G := ⟨K, fun _ => NBank, w⟩) (c := ⟨C0, T0, f2, f3, f4, f5, f6, f8, f9, f10, f7, f11, f12, f13, f14⟩) rfl B T (U19 base) (U21 base) F34, PySem.W.mg_of X G a34, k34, b34⟩
  have U35 : ∀ base, Cal l.prog w ⟨K, fun _ => NBank, w⟩ mg base 2 "_law_order" (sp_law_order ⟨C0, T0, f2, f3, f4, f5, f6, f8, f9, f10, f7, f11, f12, f13, f14⟩) := fun base => ⟨_, _, _, fn_law_order (G := ⟨K, fun _ => NBank, w⟩) (c := ⟨C0, T0, f2, f3, f4, f5, f6, f8, f9, f10, f7, f11, f12, f13, f14⟩) rfl B T (U26 base) F35, PySem.W.mg_of X G a35, k35, b35⟩
  have U36 : ∀ base, Cal l.prog w ⟨K, fun _ => NBank, w⟩ mg base 6 "_law_moved" (sp_law_moved ⟨C0, T0, f2, f3, f4, f5, f6, f8, f9, f10, f7, f11, f12, f13, f14⟩) := fun base => ⟨_, _, _, fn_law_moved (G := ⟨K, fun _ => NBank, w⟩) (c := ⟨C0, T0, f2, f3, f4, f5, f6, f8, f9, f10, f7, f11, f12, f13, f14⟩) rfl B T (U21 base) (UG20_3_m base) F36, PySem.W.mg_of X G a36, k36, b36⟩
  have U37 : ∀ base, Cal l.prog w ⟨K, fun _ => NBank, w⟩ mg base 2 "_law_kind" (sp_law_kind ⟨C0, T0, f2, f3, f4, f5, f6, f8, f9, f10, f7, f11, f12, f13, f14⟩) := fun base => ⟨_, _, _, fn_law_kind (G := ⟨K, fun _ => NBank, w⟩) (c := ⟨C0, T0, f2, f3, f4, f5, f6, f8, f9, f10, f7, f11, f12, f13, f14⟩) rfl B T (U28 base) F37, PySem.W.mg_of X G a37, k37, b37⟩
  have U38 : ∀ base, Cal l.prog w ⟨K, fun _ => NBank, w⟩ mg base 3 "_law_good" (sp_law_good ⟨C0, T0, f2, f3, f4, f5, f6, f8, f9, f10, f7, f11, f12, f13, f14⟩) := fun base => ⟨_, _, _, fn_law_good (G := ⟨K, fun _ => NBank, w⟩) (c := ⟨C0, T0, f2, f3, f4, f5, f6, f8, f9, f10, f7, f11, f12, f13, f14⟩) rfl B T (U27 base) (U26 base) (U32 base) (U31 base) (U33 base) (U37 base) F38, PySem.W.mg_of X G a38, k38, b38⟩
  have U39 : ∀ base, Cal l.prog w ⟨K, fun _ => NBank, w⟩ mg base 3 "_law_taken" (sp_law_taken ⟨C0, T0, f2, f3, f4, f5, f6, f8, f9, f10, f7, f11, f12, f13, f14⟩) := fun base => ⟨_, _, _, fn_law_taken (G := ⟨K, fun _ => NBank, w⟩) (c := ⟨C0, T0, f2, f3, f4, f5, f6, f8, f9, f10, f7, f11, f12, f13, f14⟩) rfl B T (U37 base) F39, PySem.W.mg_of X G a39, k39, b39⟩
  refine ⟨(PySem.W.fnOf "law" "law" (defArgs stlaw) (defBody stlaw) (defScope stlaw) .none kV40 dc40 pm40 an40 cd40 ct40), fun s v => .of_eq rfl, fun base _ _ => ?_⟩
  have FL : FnD l.prog w ⟨K, fun _ => NBank, w⟩ mg base CX0 7 _ _ ["_law_script"] (splaw ⟨C0, T0, f2, f3, f4, f5, f6, f8, f9, f10, f7, f11, f12, f13, f14⟩) := fnlaw (G := ⟨K, fun _ => NBank, w⟩) (c := ⟨C0, T0, f2, f3, f4, f5, f6, f8, f9, f10, f7, f11, f12, f13, f14⟩) rfl B T (U25 base) (U30 base) (U34 base) (U38 base) (UG20_3_m base) (U39 base) (U19 base) (U36 base) (U35 base) (U24 base) (U23 base) (U22 base) F40
  exact FnOk.imp FL fun vs H Q E h => law_start h
theorem walk {l : PySem.W.OpenLaw} {q : Program} {loose : List Str} {XP : (Str → Option Value) → Heap → Prop} {YP : World → Heap → Prop} {d : DefRec} {K : Params → PySem.W.Frag} (hn : l.most = some 63) (hdf : d.params.defaults = [])
    (hY : ∀ (w : World) (h : Heap), YP w h → (K w.params).In h)
    (F : ∀ (w : World) (mg : Str → Option Value) (fa : Addr) (h : Heap), (K w.params).In h → h.Ns mainGlobals mg → mg d.name = some (.ref fa) →
      ∃ fd : FuncData, (∀ (s : Shared) (u : Value), BindsTo s fd ⟨[u], []⟩ [("_law_script", u)]) ∧ ∀ base : Heap, (K w.params).In base → base.Ns mainGlobals mg → FnOk l.prog w (K w.params) mg base CX0 7 fa fd ["_law_script"] (spLaw (K w.params))) :
    PySem.W.WalkO q loose XP YP l.row.toRowW d [] (fun f vs => PySem.call f vs) :=
  L2.walk_of (n := 63) (k := 7) (x := "_law_script") (CX := fun _ => CX0) (sp := fun w => spLaw (K w.params)) hn (by decide) hdf ⟨rfl, by decide, by decide⟩ hY F (fun _ _ a ns hl _ hS => ⟨a, ns, rfl, hS, hl, fun _ => rfl⟩) fun _ _ _ _ _ z => z
end DL
open PySem PySem.W PyProof.Rows
set_option maxRecDepth 100000 in
set_option maxHeartbeats 0 in
theorem PySem.Challenge.cw_pushproof_k07_whole_in_any_order_holds : PySem.Challenge.rw_pushproof_k07_whole_in_any_order.Holds := by
  w_on; o_law; k_head; (case hw => w_witness2)
  k_fill
  refine DL.walk (l := PySem.Challenge.rw_pushproof_k07_whole_in_any_order) rfl rfl (fun w h Y => PySem.W.kIn_of Y) ?F
  case F =>
    intro w mg fa h KX G hmg
    refine' DL.all_mk KX G hmg ?a0 ?l0 ?c0 ?k0 ?a1 ?l1 ?c1 ?k1 ?a2 ?l2 ?c2 ?k2 ?a3 ?l3 ?c3 ?k3 ?a4 ?l4 ?c4 ?k4 ?a5 ?l5 ?c5 ?k5 ?a6 ?l6 ?c6 ?k6 ?a7 ?l7 ?c7 ?k7 ?a8 ?l8 ?c8 ?k8 ?a9 ?l9 ?c9 ?k9 ?a10 ?l10 ?c10 ?k10 ?a11 ?l11 ?c11 ?k11 ?a12 ?l12 ?c12 ?k12 ?a13 ?l13 ?c13 ?k13 ?a14 ?l14 ?c14 ?k14 ?a15 ?l15 ?c15 ?k15 ?a16 ?l16 ?c16 ?k16 ?a17 ?l17 ?c17 ?k17 ?a18 ?l18 ?c18 ?k18 ?a19 ?i19 ?l19 ?c19 ?k19 ?a20 ?i20 ?l20 ?c20 ?k20 ?q20 ?t20 ?p20 ?u20 ?a21 ?i21 ?l21 ?c21 ?k21 ?a22 ?i22 ?l22 ?c22 ?k22 ?a23 ?i23 ?l23 ?c23 ?k23 ?a24 ?i24 ?l24 ?c24 ?k24 ?a25 ?l25 ?c25 ?k25 ?a26 ?l26 ?c26 ?k26 ?a27 ?l27 ?c27 ?k27 ?a28 ?l28 ?c28 ?k28 ?a29 ?l29 ?c29 ?k29 ?a30 ?l30 ?c30 ?k30 ?a31 ?l31 ?c31 ?k31 ?a32 ?l32 ?c32 ?k32 ?a33 ?l33 ?c33 ?k33 ?a34 ?l34 ?c34 ?k34 ?a35 ?l35 ?c35 ?k35 ?a36 ?l36 ?c36 ?k36 ?a37 ?l37 ?c37 ?k37 ?a38 ?l38 ?c38 ?k38 ?a39 ?l39 ?c39 ?k39 ?a40 ?l40 ?c40 ?k40 ?aC0 ?pg0 ?hd0 ?po0 ?sa0 ?mk0 ?kc0 ?n0_0 ?n0_1 ?n0_2 ?n0_3 ?gg0 ?gl0 ?gg1 ?gg2 ?gg3 ?gg4 ?gt0 ?tl0 ?tk0 ?ty0 ?tt0 ?z0 ?z1 ?z2 ?z3 ?z4 ?z5 ?z6 ?z7 ?z8 ?z9 ?z10 ?z11 ?z12
    (case aC0 => k_is)
    (case gg0 => k_is)
    (case gg1 => k_is)
    (case gg2 => k_is)
    (case gg3 => k_is)
    (case gg4 => k_is)
    (case gt0 => k_is)
    (case tl0 => k_is)
    (case a0 => k_is)
    (case l0 => k_is)
    (case c0 => k_is)
    (case k0 => k_is)
    (case a1 => k_is)
    (case l1 => k_is)
    (case c1 => k_is)
    (case k1 => k_is)
    (case a2 => k_is)
    (case l2 => k_is)
    (case c2 => k_is)
    (case k2 => k_is)
    (case a3 => k_is)
    (case l3 => k_is)
    (case c3 => k_is)
    (case k3 => k_is)
    (case a4 => k_is)
    (case l4 => k_is)
    (case c4 => k_is)
    (case k4 => k_is)
    (case a5 => k_is)
    (case l5 => k_is)
    (case c5 => k_is)
    (case k5 => k_is)
    (case a6 => k_is)
    (case l6 => k_is)
    (case c6 => k_is)
    (case k6 => k_is)
    (case a7 => k_is)
    (case l7 => k_is)
    (case c7 => k_is)
    (case k7 => k_is)
    (case a8 => k_is)
    (case l8 => k_is)
    (case c8 => k_is)
    (case k8 => k_is)
    (case a9 => k_is)
    (case l9 => k_is)
    (case c9 => k_is)
    (case k9 => k_is)
    (case a10 => k_is)
    (case l10 => k_is)
    (case c10 => k_is)
    (case k10 => k_is)
    (case a11 => k_is)
    (case l11 => k_is)
    (case c11 => k_is)
    (case k11 => k_is)
    (case a12 => k_is)
    (case l12 => k_is)
    (case c12 => k_is)
    (case k12 => k_is)
    (case a13 => k_is)
    (case l13 => k_is)
    (case c13 => k_is)
    (case k13 => k_is)
    (case a14 => k_is)
    (case l14 => k_is)
    (case c14 => k_is)
    (case k14 => k_is)
    (case a15 => k_is)
    (case l15 => k_is)
    (case c15 => k_is)
    (case k15 => k_is)
    (case a16 => k_is)
    (case l16 => k_is)
    (case c16 => k_is)
    (case k16 => k_is)
    (case a17 => k_is)
    (case l17 => k_is)
    (case c17 => k_is)
    (case k17 => k_is)
    (case a18 => k_is)
    (case l18 => k_is)
    (case c18 => k_is)
    (case k18 => k_is)
    (case a19 => k_is)
    (case i19 => k_is)
    (case l19 => k_is)
    (case c19 => k_is)
    (case k19 => k_is)
    (case a20 => k_is)
    (case i20 => k_is)
    (case l20 => k_is)
    (case c20 => k_is)
    (case k20 => k_is)
    (case q20 => k_is)
    (case t20 => k_is)
    (case p20 => k_is)
    (case u20 => k_is)
    (case a21 => k_is)
    (case i21 => k_is)
    (case l21 => k_is)
    (case c21 => k_is)
    (case k21 => k_is)
    (case a22 => k_is)
    (case i22 => k_is)
    (case l22 => k_is)
    (case c22 => k_is)
    (case k22 => k_is)
    (case a23 => k_is)
    (case i23 => k_is)
    (case l23 => k_is)
    (case c23 => k_is)
    (case k23 => k_is)
    (case a24 => k_is)
    (case i24 => k_is)
    (case l24 => k_is)
    (case c24 => k_is)
    (case k24 => k_is)
    (case a25 => k_is)
    (case l25 => k_is)
    (case c25 => k_is)
    (case k25 => k_is)
    (case a26 => k_is)
    (case l26 => k_is)
    (case c26 => k_is)
    (case k26 => k_is)
    (case a27 => k_is)
    (case l27 => k_is)
    (case c27 => k_is)
    (case k27 => k_is)
    (case a28 => k_is)
    (case l28 => k_is)
    (case c28 => k_is)
    (case k28 => k_is)
    (case a29 => k_is)
    (case l29 => k_is)
    (case c29 => k_is)
    (case k29 => k_is)
    (case a30 => k_is)
    (case l30 => k_is)
    (case c30 => k_is)
    (case k30 => k_is)
    (case a31 => k_is)
    (case l31 => k_is)
    (case c31 => k_is)
    (case k31 => k_is)
    (case a32 => k_is)
    (case l32 => k_is)
    (case c32 => k_is)
    (case k32 => k_is)
    (case a33 => k_is)
    (case l33 => k_is)
    (case c33 => k_is)
    (case k33 => k_is)
    (case a34 => k_is)
    (case l34 => k_is)
    (case c34 => k_is)
    (case k34 => k_is)
    (case a35 => k_is)
    (case l35 => k_is)
    (case c35 => k_is)
    (case k35 => k_is)
    (case a36 => k_is)
    (case l36 => k_is)
    (case c36 => k_is)
    (case k36 => k_is)
    (case a37 => k_is)
    (case l37 => k_is)
    (case c37 => k_is)
    (case k37 => k_is)
    (case a38 => k_is)
    (case l38 => k_is)
    (case c38 => k_is)
    (case k38 => k_is)
    (case a39 => k_is)
    (case l39 => k_is)
    (case c39 => k_is)
    (case k39 => k_is)
    (case a40 => k_is)
    (case l40 => k_is)
    (case c40 => k_is)
    (case k40 => k_is)
    (case pg0 => k_is)
    (case hd0 => k_is)
    (case po0 => k_is)
    (case sa0 => k_is)
    (case mk0 => k_is)
    (case kc0 => k_is)
    (case n0_0 => k_is)
    (case n0_1 => k_is)
    (case n0_2 => k_is)
    (case n0_3 => k_is)
    (case gl0 => k_is)
    (case z0 => k_is)
    (case z1 => k_is)
    (case z2 => k_is)
    (case z3 => k_is)
    (case z4 => k_is)
    (case z5 => k_is)
    (case z6 => k_is)
    (case z7 => k_is)
    (case z8 => k_is)
    (case z9 => k_is)
    (case z10 => k_is)
    (case z11 => k_is)
    (case z12 => k_is)
    (case tk0 => k_keys)
    (case ty0 => decide)
    (case tt0 => (repeat (first | exact True.intro | refine And.intro ⟨⟨_, rfl⟩, rfl⟩ ?_)))
