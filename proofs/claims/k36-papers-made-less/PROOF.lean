import PyProof.Rows.All
import Wide.All
import OpenK.AllK
import Wide.FinOn
import HandS.ForMost
import HandS.Call
import HandS.Comp
import HandS.Defaults
import HandS.Dict
import HandS.ExcIs
import HandS.ExcOwn
import HandS.IsInst
import HandS.Iter
import HandS.List
import HandS.More
import HandS.SetKeys
import HandS.Spec
import HandS.Style
import HandS.Wide
import HandS.WideBits
import HandS.Words
import HandS.WordsExc
import HandS.Zip
import PyProof.ExcBaseAll.ValueError
import PySem.Challenge.RW_pushproof_k36_papers_made_less
set_option Elab.async false
set_option linter.all false
set_option maxRecDepth 100000
set_option autoImplicit false
namespace L2
open PySem PySem.Spec
/-- a caught exception of the class C that is kept -/
def EXo (C a : Addr) : HO := .ext fun h => ∃ oe : Obj, h.get? a = some oe ∧ Zc (.ref C) none oe ∧ ∃ vs, oe.data = .fields vs
theorem exo_is {P : Program} {w : World} {H : Hp} {h : Heap} {C a : Addr} {oe : Obj} (e : h.get? a = some oe) (z : Zc (.ref C) none oe) (d : ∃ vs, oe.data = .fields vs) : ObjOk P w H h a (EXo C a) :=
  ⟨⟨oe, e, z, d⟩, ⟨oe, e⟩, fun _ _ ⟨o, q, r⟩ k => ⟨o, k o q, r⟩⟩
end L2
namespace DL
open PySem PySem.Spec PyProof.Rows L2

/-! ## data -/
inductive D where
  | non | bl (b : Bool) | int (i : Int) | str (x : Str)
  | lst (xs : List D) | tup (xs : List D) | scr (xs : List D)
  | hdl (k : Nat) | raw (v : V) | exc (C : Addr)
inductive Cell where
  | lst (xs : List D)
  | dK (kvs : List (Key × D))
  | ins (C : Addr) (fs : List (Nat × D))
abbrev Sto := List Cell
abbrev DEnv := List (Option D)
abbrev DQ := D → Sto → Prop
abbrev XQ := Addr → Sto → Prop
/-- what is fixed: the written part, each class's attributes -/
structure Gm where
  K : PySem.W.Frag
  Γ : Addr → List Str
structure Wd where
  m : List Addr
  ex : List Addr

/-! ## how data stand in the heap -/
def TupAt (K : PySem.W.Frag) (W : Wd) (H : Hp) (a : Addr) (vs : List V) : Prop :=
  (a ∉ W.m ∧ a ∉ W.ex ∧ Rd H a (.tup vs)) ∨ SqT K (fun _ => none) a vs
def ScrAt (K : PySem.W.Frag) (W : Wd) (H : Hp) (a : Addr) (vs : List V) : Prop :=
  (a ∉ W.m ∧ a ∉ W.ex ∧ Rd H a (.lst vs)) ∨ SqL K (fun _ => none) a vs
mutual
def Rp (K : PySem.W.Frag) (W : Wd) (H : Hp) : D → V → Prop
  | .non, v => v = .non
  | .bl b, v => v = .bl b
  | .int i, v => v = .int i
  | .str x, v => v = .str x
  | .lst ds, v => ∃ a vs, v = .ref a ∧ a ∉ W.m ∧ a ∉ W.ex ∧ H a = some (.lst vs) ∧ RpL K W H ds vs
  | .tup ds, v => ∃ a vs, v = .ref a ∧ TupAt K W H a vs ∧ RpL K W H ds vs
  | .scr ds, v => ∃ a vs, v = .ref a ∧ ScrAt K W H a vs ∧ RpL K W H ds vs
  | .hdl k, v => ∃ a, W.m[k]? = some a ∧ v = .ref a
  | .raw u, v => v = u
  | .exc C, v => ∃ a, v = .ref a ∧ a ∉ W.m ∧ a ∉ W.ex ∧ H a = some (L2.EXo C a)
def RpL (K : PySem.W.Frag) (W : Wd) (H : Hp) : List D → List V → Prop
  | [], vs => vs = []
  | d :: ds, vs => ∃ v r, vs = v :: r ∧ Rp K W H d v ∧ RpL K W H ds r
end
/-- later: the world has grown, what was no handle's is as it was -/
structure Le (W : Wd) (H : Hp) (W' : Wd) (H' : Hp) : Prop where
  ex : W'.ex = W.ex
  m : ∃ t, W'.m = W.m ++ t
  keep : ∀ a o, a ∉ W.m → H a = some o → a ∉ W'.m ∧ H' a = some o
theorem Le.refl {W : Wd} {H : Hp} : Le W H W H := ⟨rfl, ⟨[], by simp⟩, fun _ _ h e => ⟨h, e⟩⟩
theorem Le.trans {W W1 W2 : Wd} {H H1 H2 : Hp} (a : Le W H W1 H1) (b : Le W1 H1 W2 H2) : Le W H W2 H2 := by
  obtain ⟨t, e⟩ := a.m
  obtain ⟨u, e'⟩ := b.m
  refine ⟨b.ex.trans a.ex, ⟨t ++ u, by rw [e', e, List.append_assoc]⟩, fun x o h q => ?_⟩
  obtain ⟨h1, q1⟩ := a.keep x o h q
  exact b.keep x o h1 q1
/-- what data ask: the handles' places stay, what is neither a handle's nor hidden is as it was -/
structure LeR (W : Wd) (H : Hp) (W' : Wd) (H' : Hp) : Prop where
  m : ∃ t, W'.m = W.m ++ t
  keep : ∀ a o, a ∉ W.m → a ∉ W.ex → H a = some o → a ∉ W'.m ∧ a ∉ W'.ex ∧ H' a = some o
theorem Le.r {W W' : Wd} {H H' : Hp} (l : Le W H W' H') : LeR W H W' H' :=
  ⟨l.m, fun a o h1 h2 e => let q := l.keep a o h1 e; ⟨q.1, by rw [l.ex]; exact h2, q.2⟩⟩
theorem LeR.trans {W W1 W2 : Wd} {H H1 H2 : Hp} (a : LeR W H W1 H1) (b : LeR W1 H1 W2 H2) : LeR W H W2 H2 := by
  obtain ⟨t, e⟩ := a.m
  obtain ⟨u, e'⟩ := b.m
  refine ⟨⟨t ++ u, by rw [e', e, List.append_assoc]⟩, fun x o h1 h2 q => ?_⟩
  obtain ⟨h3, h4, q1⟩ := a.keep x o h1 h2 q
  exact b.keep x o h3 h4 q1
theorem Rd.leR {W W' : Wd} {H H' : Hp} {a : Addr} {u : HO} (l : LeR W H W' H') (h : a ∉ W.m) (h' : a ∉ W.ex) (r : Rd H a u) : a ∉ W'.m ∧ a ∉ W'.ex ∧ Rd H' a u := by
  rcases r with r | ⟨o, r⟩
  · obtain ⟨h1, h2, q⟩ := l.keep a _ h h' r
    exact ⟨h1, h2, .inl q⟩
  · obtain ⟨h1, h2, q⟩ := l.keep a _ h h' r
    exact ⟨h1, h2, .inr ⟨o, q⟩⟩
theorem TupAt.leR {K : PySem.W.Frag} {W W' : Wd} {H H' : Hp} {a : Addr} {vs : List V} (l : LeR W H W' H') (h : TupAt K W H a vs) : TupAt K W' H' a vs := by
  rcases h with ⟨h1, h2, h3⟩ | h
  · exact .inl (Rd.leR l h1 h2 h3)
  · exact .inr h
theorem ScrAt.leR {K : PySem.W.Frag} {W W' : Wd} {H H' : Hp} {a : Addr} {vs : List V} (l : LeR W H W' H') (h : ScrAt K W H a vs) : ScrAt K W' H' a vs := by
  rcases h with ⟨h1, h2, h3⟩ | h
  · exact .inl (Rd.leR l h1 h2 h3)
  · exact .inr h
theorem TupAt.le {K : PySem.W.Frag} {W W' : Wd} {H H' : Hp} {a : Addr} {vs : List V} (l : Le W H W' H') (h : TupAt K W H a vs) : TupAt K W' H' a vs := h.leR l.r
theorem ScrAt.le {K : PySem.W.Frag} {W W' : Wd} {H H' : Hp} {a : Addr} {vs : List V} (l : Le W H W' H') (h : ScrAt K W H a vs) : ScrAt K W' H' a vs := h.leR l.r
theorem TupAt.sq {K : PySem.W.Frag} {W : Wd} {H : Hp} {a : Addr} {vs : List V} (h : TupAt K W H a vs) : SqT K H a vs := by
  rcases h with ⟨_, _, h⟩ | h
  · exact .inl h
  · rcases h with (h | ⟨_, h⟩) | h
    · cases h
    · cases h
    · exact .inr h
theorem ScrAt.sq {K : PySem.W.Frag} {W : Wd} {H : Hp} {a : Addr} {vs : List V} (h : ScrAt K W H a vs) : SqL K H a vs := by
  rcases h with ⟨_, _, h⟩ | h
  · exact .inl h
  · rcases h with (h | ⟨_, h⟩) | h
    · cases h
    · cases h
    · exact .inr h
section
variable {K : PySem.W.Frag} {W W' : Wd} {H H' : Hp}
mutual
theorem Rp.leR (l : LeR W H W' H') : ∀ {d : D} {v : V}, Rp K W H d v → Rp K W' H' d v
  | .non, _, h => h
  | .bl _, _, h => h
  | .int _, _, h => h
  | .str _, _, h => h
  | .lst ds, v, h => by
    simp only [Rp] at h ⊢
    obtain ⟨a, vs, e, h1, h2, h3, h4⟩ := h
    obtain ⟨q1, q2, q3⟩ := l.keep a _ h1 h2 h3
    exact ⟨a, vs, e, q1, q2, q3, RpL.leR l h4⟩
  | .tup ds, v, h => by
    simp only [Rp] at h ⊢
    obtain ⟨a, vs, e, h1, h4⟩ := h
    exact ⟨a, vs, e, h1.leR l, RpL.leR l h4⟩
  | .scr ds, v, h => by
    simp only [Rp] at h ⊢
    obtain ⟨a, vs, e, h1, h4⟩ := h
    exact ⟨a, vs, e, h1.leR l, RpL.leR l h4⟩
  | .hdl k, v, h => by
    simp only [Rp] at h ⊢
    obtain ⟨a, h1, e⟩ := h
    obtain ⟨t, q⟩ := l.m
    refine ⟨a, ?_, e⟩
    rw [q, List.getElem?_append_left]
    · exact h1
    · exact (List.getElem?_eq_some_iff.mp h1).1
  | .raw _, _, h => h
  | .exc _, v, h => by
    simp only [Rp] at h ⊢
    obtain ⟨a, e, h1, h2, h3⟩ := h
    obtain ⟨q1, q2, q3⟩ := l.keep a _ h1 h2 h3
    exact ⟨a, e, q1, q2, q3⟩
theorem RpL.leR (l : LeR W H W' H') : ∀ {ds : List D} {vs : List V}, RpL K W H ds vs → RpL K W' H' ds vs
  | [], _, h => h
  | d :: ds, vs, h => by
    simp only [RpL] at h ⊢
    obtain ⟨v, r, e, h1, h2⟩ := h
    exact ⟨v, r, e, Rp.leR l h1, RpL.leR l h2⟩
end
theorem Rp.le (l : Le W H W' H') {d : D} {v : V} (h : Rp K W H d v) : Rp K W' H' d v := h.leR l.r
theorem RpL.le (l : Le W H W' H') {ds : List D} {vs : List V} (h : RpL K W H ds vs) : RpL K W' H' ds vs := h.leR l.r
end
section
variable {K : PySem.W.Frag} {W : Wd} {H : Hp}
theorem RpL.length : ∀ {ds : List D} {vs : List V}, RpL K W H ds vs → vs.length = ds.length
  | [], _, h => by simp only [RpL] at h; subst h; rfl
  | d :: ds, vs, h => by
    simp only [RpL] at h
    obtain ⟨v, r, e, h1, h2⟩ := h
    subst e
    simp [RpL.length h2]
theorem RpL.get : ∀ {ds : List D} {vs : List V} {i : Nat} {d : D}, RpL K W H ds vs → ds[i]? = some d → ∃ v, vs[i]? = some v ∧ Rp K W H d v
  | [], _, _, _, _, e => by simp at e
  | d :: ds, vs, 0, _, h, e => by
    simp only [RpL] at h
    obtain ⟨v, r, rfl, h1, h2⟩ := h
    simp at e; subst e
    exact ⟨v, by simp, h1⟩
  | d :: ds, vs, i + 1, _, h, e => by
    simp only [RpL] at h
    obtain ⟨v, r, rfl, h1, h2⟩ := h
    obtain ⟨w, q1, q2⟩ := RpL.get (i := i) h2 (by simpa using e)
    exact ⟨w, by simpa using q1, q2⟩
theorem RpL.append : ∀ {ds es : List D} {vs us : List V}, RpL K W H ds vs → RpL K W H es us → RpL K W H (ds ++ es) (vs ++ us)
  | [], _, _, _, h, h' => by simp only [RpL] at h; subst h; exact h'
  | d :: ds, es, vs, us, h, h' => by
    simp only [RpL] at h
    obtain ⟨v, r, rfl, h1, h2⟩ := h
    show RpL K W H (d :: (ds ++ es)) (v :: (r ++ us))
    simp only [RpL]
    exact ⟨v, _, rfl, h1, RpL.append h2 h'⟩
theorem RpL.one {d : D} {v : V} (h : Rp K W H d v) : RpL K W H [d] [v] := by
  simp only [RpL]; exact ⟨v, [], rfl, h, rfl⟩
theorem RpL.nil : RpL K W H [] [] := by simp only [RpL]
theorem RpL.cons {d : D} {v : V} {ds : List D} {vs : List V} (h : Rp K W H d v) (h' : RpL K W H ds vs) : RpL K W H (d :: ds) (v :: vs) := by
  simp only [RpL]; exact ⟨v, vs, rfl, h, h'⟩
theorem RpL.take : ∀ {ds : List D} {vs : List V} (n : Nat), RpL K W H ds vs → RpL K W H (ds.take n) (vs.take n)
  | _, _, 0, _ => by simp [RpL]
  | [], vs, n + 1, h => by simp only [RpL] at h; subst h; simp [RpL]
  | d :: ds, vs, n + 1, h => by
    simp only [RpL] at h
    obtain ⟨v, r, rfl, h1, h2⟩ := h
    exact RpL.cons h1 (RpL.take n h2)
theorem RpL.drop : ∀ {ds : List D} {vs : List V} (n : Nat), RpL K W H ds vs → RpL K W H (ds.drop n) (vs.drop n)
  | _, _, 0, h => h
  | [], vs, n + 1, h => by simp only [RpL] at h; subst h; simp [RpL]
  | d :: ds, vs, n + 1, h => by
    simp only [RpL] at h
    obtain ⟨v, r, rfl, h1, h2⟩ := h
    exact RpL.drop n h2
theorem RpL.set {d : D} {v : V} (hd : Rp K W H d v) : ∀ {ds : List D} {vs : List V} (n : Nat), RpL K W H ds vs → RpL K W H (ds.set n d) (vs.set n v)
  | [], vs, n, h => by simp only [RpL] at h; subst h; simp [RpL]
  | e :: ds, vs, 0, h => by
    simp only [RpL] at h
    obtain ⟨v', r, rfl, h1, h2⟩ := h
    exact RpL.cons hd h2
  | e :: ds, vs, n + 1, h => by
    simp only [RpL] at h
    obtain ⟨v', r, rfl, h1, h2⟩ := h
    exact RpL.cons h1 (RpL.set hd n h2)
theorem RpL.eraseIdx : ∀ {ds : List D} {vs : List V} (n : Nat), RpL K W H ds vs → RpL K W H (ds.eraseIdx n) (vs.eraseIdx n)
  | [], vs, n, h => by simp only [RpL] at h; subst h; simp [RpL]
  | e :: ds, vs, 0, h => by
    simp only [RpL] at h
    obtain ⟨v', r, rfl, h1, h2⟩ := h
    exact h2
  | e :: ds, vs, n + 1, h => by
    simp only [RpL] at h
    obtain ⟨v', r, rfl, h1, h2⟩ := h
    exact RpL.cons h1 (RpL.eraseIdx n h2)
theorem RpL.reverse {ds : List D} {vs : List V} (h : RpL K W H ds vs) : RpL K W H ds.reverse vs.reverse := by
  induction ds generalizing vs with
  | nil => simp only [RpL] at h; subst h; simp [RpL]
  | cons d ds ih =>
    simp only [RpL] at h
    obtain ⟨v, r, rfl, h1, h2⟩ := h
    rw [List.reverse_cons, List.reverse_cons]
    exact (ih h2).append (.one h1)
theorem RpL.ints : ∀ {ns : List Int} {vs : List V}, RpL K W H (ns.map D.int) vs → vs = ns.map V.int
  | [], _, h => by simpa only [List.map, RpL] using h
  | n :: ns, vs, h => by
    simp only [List.map, RpL, Rp] at h
    obtain ⟨v, r, rfl, rfl, h2⟩ := h
    rw [RpL.ints h2]; rfl
theorem RpL.of_ints : ∀ (ns : List Int), RpL K W H (ns.map D.int) (ns.map V.int)
  | [] => by simp [RpL]
  | n :: ns => RpL.cons rfl (RpL.of_ints ns)
end

/-! ## the store -/
def RpF (K : PySem.W.Frag) (W : Wd) (H : Hp) (N : List Str) : List (Nat × D) → List (Str × V) → Prop
  | [], vs => vs = []
  | (n, d) :: fs, vs => ∃ x v r, vs = (x, v) :: r ∧ N[n]? = some x ∧ Rp K W H d v ∧ RpF K W H N fs r
def RpK (K : PySem.W.Frag) (W : Wd) (H : Hp) : List (Key × D) → List (Key × V) → Prop
  | [], vs => vs = []
  | (k, d) :: fs, vs => ∃ v r, vs = (k, v) :: r ∧ Rp K W H d v ∧ RpK K W H fs r
def CellRp (G : Gm) (W : Wd) (H : Hp) (a : Addr) : Cell → Prop
  | .lst ds => ∃ vs, H a = some (.lst vs) ∧ RpL G.K W H ds vs
  | .dK kvs => ∃ vs, H a = some (.dK vs) ∧ RpK G.K W H kvs vs
  | .ins C fs => ∃ dx vs, H a = some (.ins C dx vs) ∧ RpF G.K W H (G.Γ C) fs vs
structure Rel (G : Gm) (W : Wd) (H : Hp) (st : Sto) : Prop where
  nd : W.m.Nodup
  len : W.m.length = st.length
  out : ∀ a ∈ W.m, a ∉ W.ex
  exs : ∀ a ∈ W.ex, ∃ o, H a = some o
  cell : ∀ (k : Nat) (c : Cell), st[k]? = some c → ∃ a, W.m[k]? = some a ∧ CellRp G W H a c
theorem RpF.leR {K : PySem.W.Frag} {W W' : Wd} {H H' : Hp} {N : List Str} (l : LeR W H W' H') : ∀ {fs : List (Nat × D)} {vs : List (Str × V)}, RpF K W H N fs vs → RpF K W' H' N fs vs
  | [], _, h => h
  | (n, d) :: fs, vs, h => by
    obtain ⟨x, v, r, e, h1, h2, h3⟩ := h
    exact ⟨x, v, r, e, h1, h2.leR l, h3.leR l⟩
theorem RpK.leR {K : PySem.W.Frag} {W W' : Wd} {H H' : Hp} (l : LeR W H W' H') : ∀ {fs : List (Key × D)} {vs : List (Key × V)}, RpK K W H fs vs → RpK K W' H' fs vs
  | [], _, h => h
  | (n, d) :: fs, vs, h => by
    obtain ⟨v, r, e, h2, h3⟩ := h
    exact ⟨v, r, e, h2.leR l, h3.leR l⟩
/-- a cell's rest: its own object kept, later -/
theorem CellRp.leR {G : Gm} {W W' : Wd} {H H' : Hp} {a : Addr} {c : Cell} (l : LeR W H W' H') (e : H' a = H a) (h : CellRp G W H a c) : CellRp G W' H' a c := by
  cases c with
  | lst ds => obtain ⟨vs, h1, h2⟩ := h; exact ⟨vs, e.trans h1, h2.leR l⟩
  | dK ds => obtain ⟨vs, h1, h2⟩ := h; exact ⟨vs, e.trans h1, h2.leR l⟩
  | ins C fs => obtain ⟨dx, vs, h1, h2⟩ := h; exact ⟨dx, vs, e.trans h1, h2.leR l⟩
theorem RpF.le {K : PySem.W.Frag} {W W' : Wd} {H H' : Hp} {N : List Str} (l : Le W H W' H') {fs : List (Nat × D)} {vs : List (Str × V)} (h : RpF K W H N fs vs) : RpF K W' H' N fs vs := h.leR l.r
theorem RpK.le {K : PySem.W.Frag} {W W' : Wd} {H H' : Hp} (l : Le W H W' H') {fs : List (Key × D)} {vs : List (Key × V)} (h : RpK K W H fs vs) : RpK K W' H' fs vs := h.leR l.r
theorem CellRp.le {G : Gm} {W W' : Wd} {H H' : Hp} {a : Addr} {c : Cell} (l : Le W H W' H') (e : H' a = H a) (h : CellRp G W H a c) : CellRp G W' H' a c := h.leR l.r e
theorem CellRp.some {G : Gm} {W : Wd} {H : Hp} {a : Addr} {c : Cell} (h : CellRp G W H a c) : ∃ o, H a = some o ∧ Mut (some o) := by
  cases c with
  | lst ds => obtain ⟨vs, h1, h2⟩ := h; exact ⟨_, h1, trivial⟩
  | dK ds => obtain ⟨vs, h1, h2⟩ := h; exact ⟨_, h1, trivial⟩
  | ins C fs => obtain ⟨dx, vs, h1, h2⟩ := h; exact ⟨_, h1, trivial⟩
section
variable {G : Gm} {W : Wd} {H : Hp} {st : Sto}
theorem get_inj {l : List Addr} (h : l.Nodup) {i j : Nat} {a : Addr} (e : l[i]? = some a) (e' : l[j]? = some a) : i = j := by
  obtain ⟨h1, e1⟩ := List.getElem?_eq_some_iff.mp e
  obtain ⟨h2, e2⟩ := List.getElem?_eq_some_iff.mp e'
  exact (List.getElem_inj h).mp (e1.trans e2.symm)
theorem Le.write {a : Addr} {o : HO} (h : a ∈ W.m) : Le W H W (upd H a o) :=
  ⟨rfl, ⟨[], by simp⟩, fun b u hb e => ⟨hb, by rw [upd_ne (fun z => hb (by rw [z]; exact h))]; exact e⟩⟩
theorem Le.fresh {a : Addr} {o : HO} (h : H a = none) : Le W H W (upd H a o) :=
  ⟨rfl, ⟨[], by simp⟩, fun b u hb e => ⟨hb, by rw [upd_ne (ne_of_none e h)]; exact e⟩⟩
theorem Le.new {a : Addr} {o : HO} (h : H a = none) : Le W H ⟨W.m ++ [a], W.ex⟩ (upd H a o) :=
  ⟨rfl, ⟨[a], rfl⟩, fun b u hb e => ⟨by simp [hb, ne_of_none e h], by rw [upd_ne (ne_of_none e h)]; exact e⟩⟩
theorem Rel.mem (r : Rel G W H st) {k : Nat} {a : Addr} (e : W.m[k]? = some a) : a ∈ W.m := List.mem_of_getElem? e
theorem Rel.there (r : Rel G W H st) {a : Addr} (h : a ∈ W.m) : ∃ o, H a = some o ∧ Mut (some o) := by
  obtain ⟨k, hk, e⟩ := List.getElem_of_mem h
  have hk' : k < st.length := by rw [← r.len]; exact hk
  obtain ⟨b, e1, c⟩ := r.cell k st[k] (by simp [hk'])
  rw [List.getElem?_eq_getElem hk] at e1
  cases e1
  rw [e] at c
  exact c.some
/-- a cell written -/
theorem Rel.write {k : Nat} {a : Addr} {o : HO} {c : Cell} (r : Rel G W H st) (e : W.m[k]? = some a) (h : CellRp G W (upd H a o) a c) : Rel G W (upd H a o) (st.set k c) := by
  refine ⟨r.nd, by simpa using r.len, r.out, fun b hb => ?_, fun j c' q => ?_⟩
  · obtain ⟨u, e2⟩ := r.exs b hb
    refine ⟨u, ?_⟩
    rw [upd_ne]
    · exact e2
    · intro z; exact r.out a (r.mem e) (z ▸ hb)
  have l : Le W H W (upd H a o) := Le.write (r.mem e)
  by_cases hj : j = k
  · subst hj
    have : j < st.length := by rw [← r.len]; exact (List.getElem?_eq_some_iff.mp e).1
    rw [List.getElem?_set_self this] at q
    cases q
    exact ⟨a, e, h⟩
  · rw [List.getElem?_set_ne (Ne.symm hj)] at q
    obtain ⟨b, q1, q2⟩ := r.cell j c' q
    refine ⟨b, q1, q2.le l ?_⟩
    rw [upd_ne]
    intro z
    exact hj (get_inj r.nd (z ▸ q1) e)
/-- a new object that is no handle's -/
theorem Rel.fresh {a : Addr} {o : HO} (r : Rel G W H st) (h : H a = none) : Rel G W (upd H a o) st := by
  refine ⟨r.nd, r.len, r.out, fun b hb => ?_, fun j c q => ?_⟩
  · obtain ⟨u, e2⟩ := r.exs b hb
    exact ⟨u, by rw [upd_ne (ne_of_none e2 h)]; exact e2⟩
  obtain ⟨b, q1, q2⟩ := r.cell j c q
  refine ⟨b, q1, q2.le (Le.fresh h) ?_⟩
  obtain ⟨u, q3, _⟩ := q2.some
  rw [upd_ne (ne_of_none q3 h)]
theorem Rel.nex (r : Rel G W H st) {a : Addr} (h : H a = none) : a ∉ W.ex := fun z => by
  obtain ⟨o, e⟩ := r.exs a z
  rw [h] at e; cases e
theorem Rel.nin (r : Rel G W H st) {a : Addr} (h : H a = none) : a ∉ W.m := fun z => by
  obtain ⟨o, e, _⟩ := r.there z
  rw [h] at e; cases e
/-- a new handle -/
theorem Rel.new {a : Addr} {o : HO} {c : Cell} (r : Rel G W H st) (h : H a = none) (hc : CellRp G ⟨W.m ++ [a], W.ex⟩ (upd H a o) a c) : Rel G ⟨W.m ++ [a], W.ex⟩ (upd H a o) (st ++ [c]) := by
  have ha := r.nin h
  have hx := r.nex h
  refine ⟨?_, by simp [r.len], ?_, fun b hb => ?_, fun j c' q => ?_⟩
  · show (W.m ++ [a]).Nodup
    rw [List.nodup_append]
    refine ⟨r.nd, by simp, ?_⟩
    intro x h1 y h2 z
    have e2 : y = a := by simpa using h2
    exact ha (by rw [← e2, ← z]; exact h1)
  · intro x hx'
    rcases List.mem_append.mp hx' with z | z
    · exact r.out x z
    · have : x = a := by simpa using z
      subst this; exact hx
  · obtain ⟨u, e2⟩ := r.exs b hb
    exact ⟨u, by rw [upd_ne (ne_of_none e2 h)]; exact e2⟩
  · by_cases hj : j < st.length
    · rw [List.getElem?_append_left hj] at q
      obtain ⟨b, q1, q2⟩ := r.cell j c' q
      refine ⟨b, ?_, q2.le (Le.new h) ?_⟩
      · show (W.m ++ [a])[j]? = _
        rw [List.getElem?_append_left (by rw [r.len]; exact hj)]; exact q1
      · obtain ⟨u, q3, _⟩ := q2.some
        rw [upd_ne (ne_of_none q3 h)]
    · have hj' : st.length ≤ j := Nat.le_of_not_lt hj
      rw [List.getElem?_append_right hj'] at q
      have e0 : j - st.length = 0 := by
        by_cases z : j - st.length = 0
        · exact z
        · obtain ⟨n, hn⟩ := Nat.exists_eq_succ_of_ne_zero z
          rw [hn] at q; simp at q
      rw [e0] at q
      simp at q
      subst q
      refine ⟨a, ?_, hc⟩
      show (W.m ++ [a])[j]? = _
      rw [List.getElem?_append_right (by rw [r.len]; exact hj'), r.len, e0]
      rfl
end

/-- an object is hidden, is written while hidden, is shown again -/
theorem Rel.hide {G : Gm} {W : Wd} {H : Hp} {st : Sto} {a : Addr} {o : HO} (r : Rel G W H st) (h : H a = none) : Rel G ⟨W.m, a :: W.ex⟩ (upd H a o) st := by
  have l : LeR W H ⟨W.m, a :: W.ex⟩ (upd H a o) := ⟨⟨[], by simp⟩, fun b u h1 h2 e => ⟨h1, by simp [h2, ne_of_none e h], by rw [upd_ne (ne_of_none e h)]; exact e⟩⟩
  refine ⟨r.nd, r.len, fun b hb => ?_, fun b hb => ?_, fun j c q => ?_⟩
  · have h1 := r.nin h
    have h2 := r.out b hb
    simp only [List.mem_cons, not_or]
    exact ⟨fun z => h1 (z ▸ hb), h2⟩
  · rcases List.mem_cons.mp hb with rfl | hb
    · exact ⟨o, upd_same⟩
    · obtain ⟨u, e⟩ := r.exs b hb
      exact ⟨u, by rw [upd_ne (ne_of_none e h)]; exact e⟩
  · obtain ⟨b, q1, q2⟩ := r.cell j c q
    refine ⟨b, q1, q2.leR l ?_⟩
    obtain ⟨u, q3, _⟩ := q2.some
    rw [upd_ne (ne_of_none q3 h)]
theorem Rel.hidden {G : Gm} {W : Wd} {H : Hp} {st : Sto} {a : Addr} {o : HO} (r : Rel G W H st) (h : a ∈ W.ex) : Rel G W (upd H a o) st ∧ LeR W H W (upd H a o) := by
  have l : LeR W H W (upd H a o) := ⟨⟨[], by simp⟩, fun b u h1 h2 e => ⟨h1, h2, by rw [upd_ne (fun z => h2 (by rw [z]; exact h))]; exact e⟩⟩
  refine ⟨⟨r.nd, r.len, r.out, fun b hb => ?_, fun j c q => ?_⟩, l⟩
  · by_cases e : b = a
    · exact ⟨o, by rw [e, upd_same]⟩
    · obtain ⟨u, e2⟩ := r.exs b hb
      exact ⟨u, by rw [upd_ne e]; exact e2⟩
  · obtain ⟨b, q1, q2⟩ := r.cell j c q
    refine ⟨b, q1, q2.leR l ?_⟩
    rw [upd_ne]
    intro z
    exact r.out b (r.mem q1) (z ▸ h)
theorem LeR.show {a : Addr} {m ex : List Addr} {H : Hp} : LeR ⟨m, a :: ex⟩ H ⟨m, ex⟩ H := ⟨⟨[], by simp⟩, fun b u h1 h2 e => ⟨h1, fun z => h2 (List.mem_cons_of_mem _ z), e⟩⟩
theorem Rel.show {G : Gm} {a : Addr} {m ex : List Addr} {H : Hp} {st : Sto} (r : Rel G ⟨m, a :: ex⟩ H st) : Rel G ⟨m, ex⟩ H st :=
  ⟨r.nd, r.len, fun b hb z => r.out b hb (List.mem_cons_of_mem _ z), fun b hb => r.exs b (List.mem_cons_of_mem _ hb), fun j c q => by
    obtain ⟨b, q1, q2⟩ := r.cell j c q
    exact ⟨b, q1, q2.leR LeR.show rfl⟩⟩
/-- a hidden list is a handle from now on -/
theorem Rel.toH {G : Gm} {a : Addr} {m ex : List Addr} {H : Hp} {st : Sto} {ds : List D} {vs : List V} (r : Rel G ⟨m, a :: ex⟩ H st) (ha : a ∉ ex) (e : H a = some (.lst vs)) (h : RpL G.K ⟨m, a :: ex⟩ H ds vs) : Rel G ⟨m ++ [a], ex⟩ H (st ++ [.lst ds]) ∧ Rp G.K ⟨m ++ [a], ex⟩ H (.hdl st.length) (.ref a) := by
  have nm : a ∉ m := fun z => r.out a z (List.mem_cons_self)
  have l : LeR ⟨m, a :: ex⟩ H ⟨m ++ [a], ex⟩ H := ⟨⟨[a], rfl⟩, fun b u h1 h2 e => by
    simp only [List.mem_cons, not_or] at h2
    exact ⟨by simp only [List.mem_append, List.mem_singleton, not_or]; exact ⟨h1, h2.1⟩, h2.2, e⟩⟩
  have hlen : m.length = st.length := r.len
  refine ⟨⟨?_, by simp [hlen], fun b hb => ?_, fun b hb => r.exs b (List.mem_cons_of_mem _ hb), fun j c q => ?_⟩, ?_⟩
  · show (m ++ [a]).Nodup
    rw [List.nodup_append]
    refine ⟨r.nd, by simp, ?_⟩
    intro x h1 y h2 z
    have e2 : y = a := by simpa using h2
    exact nm (by rw [← e2, ← z]; exact h1)
  · rcases List.mem_append.mp hb with z | z
    · exact fun q => r.out b z (List.mem_cons_of_mem _ q)
    · have : b = a := by simpa using z
      subst this; exact ha
  · by_cases hj : j < st.length
    · rw [List.getElem?_append_left hj] at q
      obtain ⟨b, q1, q2⟩ := r.cell j c q
      refine ⟨b, ?_, q2.leR l rfl⟩
      show (m ++ [a])[j]? = _
      rw [List.getElem?_append_left (by rw [hlen]; exact hj)]; exact q1
    · have hj' : st.length ≤ j := Nat.le_of_not_lt hj
      rw [List.getElem?_append_right hj'] at q
      have e0 : j - st.length = 0 := by
        by_cases z : j - st.length = 0
        · exact z
        · obtain ⟨n, hn⟩ := Nat.exists_eq_succ_of_ne_zero z
          rw [hn] at q; simp at q
      rw [e0] at q
      simp at q
      subst q
      refine ⟨a, ?_, vs, e, h.leR l⟩
      show (m ++ [a])[j]? = _
      rw [List.getElem?_append_right (by rw [hlen]; exact hj'), hlen, e0]
      rfl
  · simp only [Rp]
    refine ⟨a, ?_, rfl⟩
    show (m ++ [a])[st.length]? = _
    rw [← hlen]; simp
/-- new data: a list, a tuple -/
theorem newL {G : Gm} {W : Wd} {H : Hp} {st : Sto} {a : Addr} {ds : List D} {vs : List V} (r : Rel G W H st) (h : H a = none) (q : RpL G.K W H ds vs) : Rp G.K W (upd H a (.lst vs)) (.lst ds) (.ref a) := by
  simp only [Rp]
  exact ⟨a, vs, rfl, r.nin h, r.nex h, upd_same, q.le (Le.fresh h)⟩
theorem newT {G : Gm} {W : Wd} {H : Hp} {st : Sto} {a : Addr} {ds : List D} {vs : List V} (r : Rel G W H st) (h : H a = none) (q : RpL G.K W H ds vs) : Rp G.K W (upd H a (.tup vs)) (.tup ds) (.ref a) := by
  simp only [Rp]
  exact ⟨a, vs, rfl, .inl ⟨r.nin h, r.nex h, .inl upd_same⟩, q.le (Le.fresh h)⟩
/-- a new handle, of a list, of a dict -/
theorem newHL {G : Gm} {W : Wd} {H : Hp} {st : Sto} {a : Addr} {ds : List D} {vs : List V} (r : Rel G W H st) (h : H a = none) (q : RpL G.K W H ds vs) :
    Rel G ⟨W.m ++ [a], W.ex⟩ (upd H a (.lst vs)) (st ++ [.lst ds]) ∧ Rp G.K ⟨W.m ++ [a], W.ex⟩ (upd H a (.lst vs)) (.hdl st.length) (.ref a) := by
  refine ⟨r.new h ⟨vs, upd_same, q.le (Le.new h)⟩, ?_⟩
  simp only [Rp]
  refine ⟨a, ?_, rfl⟩
  rw [← r.len]; simp
theorem newHK {G : Gm} {W : Wd} {H : Hp} {st : Sto} {a : Addr} {ds : List (Key × D)} {vs : List (Key × V)} (r : Rel G W H st) (h : H a = none) (q : RpK G.K W H ds vs) :
    Rel G ⟨W.m ++ [a], W.ex⟩ (upd H a (.dK vs)) (st ++ [.dK ds]) ∧ Rp G.K ⟨W.m ++ [a], W.ex⟩ (upd H a (.dK vs)) (.hdl st.length) (.ref a) := by
  refine ⟨r.new h ⟨vs, upd_same, q.le (Le.new h)⟩, ?_⟩
  simp only [Rp]
  refine ⟨a, ?_, rfl⟩
  rw [← r.len]; simp

/-! ## names -/
structure RpE (K : PySem.W.Frag) (W : Wd) (H : Hp) (ρ : DEnv) (σ : L2.St) : Prop where
  len : ρ.length = σ.length
  get : ∀ (i : Nat) (d : D), ρ[i]? = some (some d) → ∃ v, σ[i]? = some (some v) ∧ Rp K W H d v
theorem RpE.le {K : PySem.W.Frag} {W W' : Wd} {H H' : Hp} {ρ : DEnv} {σ : L2.St} (r : RpE K W H ρ σ) (l : Le W H W' H') : RpE K W' H' ρ σ :=
  ⟨r.len, fun i d e => let ⟨v, h1, h2⟩ := r.get i d e; ⟨v, h1, h2.le l⟩⟩
theorem RpE.set {K : PySem.W.Frag} {W : Wd} {H : Hp} {ρ : DEnv} {σ : L2.St} (r : RpE K W H ρ σ) {d : D} {v : V} (h : Rp K W H d v) (i : Nat) : RpE K W H (ρ.set i (some d)) (σ.set i (some v)) := by
  refine ⟨by simp [r.len], fun j e q => ?_⟩
  by_cases hj : i = j
  · subst hj
    by_cases hi : i < ρ.length
    · rw [List.getElem?_set_self hi] at q
      cases q
      exact ⟨v, by rw [List.getElem?_set_self (by rw [← r.len]; exact hi)], h⟩
    · rw [List.getElem?_eq_none (by simp; omega)] at q
      cases q
  · rw [List.getElem?_set_ne hj] at q
    obtain ⟨w, h1, h2⟩ := r.get j e q
    exact ⟨w, by rw [List.getElem?_set_ne hj]; exact h1, h2⟩

/-! ## readings -/
abbrev ME := DEnv → Sto → DQ → XQ → Prop
abbrev MT := DEnv → Sto → (Bool → Sto → Prop) → XQ → Prop
abbrev MA := DEnv → Sto → (List D → Sto → Prop) → XQ → Prop
structure DEnds where
  nx : DEnv → Sto → Prop
  rt : DQ
  bk : DEnv → Sto → Prop := fun _ _ => False
  ct : DEnv → Sto → Prop := fun _ _ => False
  xq : XQ
abbrev MS := DEnds → DEnv → Sto → Prop
section
variable (G : Gm) (E : XK)
/-- what is wanted behind -/
structure OutE (W : Wd) (H : Hp) (R : DQ) (xq : XQ) (Q : VK) : Prop where
  rt : ∀ W' H' d v st', Le W H W' H' → Rel G W' H' st' → Rp G.K W' H' d v → R d st' → Q v H'
  xq : ∀ W' H' C st', Le W H W' H' → Rel G W' H' st' → xq C st' → E (.ref C) none H'
structure OutT (W : Wd) (H : Hp) (R : Bool → Sto → Prop) (xq : XQ) (Q : Bool → Hp → Prop) : Prop where
  rt : ∀ W' H' b st', Le W H W' H' → Rel G W' H' st' → R b st' → Q b H'
  xq : ∀ W' H' C st', Le W H W' H' → Rel G W' H' st' → xq C st' → E (.ref C) none H'
structure OutA (W : Wd) (H : Hp) (R : List D → Sto → Prop) (xq : XQ) (Q : List V → Hp → Prop) : Prop where
  rt : ∀ W' H' ds vs st', Le W H W' H' → Rel G W' H' st' → RpL G.K W' H' ds vs → R ds st' → Q vs H'
  xq : ∀ W' H' C st', Le W H W' H' → Rel G W' H' st' → xq C st' → E (.ref C) none H'
structure OutS (W : Wd) (H : Hp) (e : DEnds) (Dn : Ends) : Prop where
  nx : ∀ W' H' ρ' σ' st', Le W H W' H' → Rel G W' H' st' → RpE G.K W' H' ρ' σ' → e.nx ρ' st' → Dn.nx σ' H'
  bk : ∀ W' H' ρ' σ' st', Le W H W' H' → Rel G W' H' st' → RpE G.K W' H' ρ' σ' → e.bk ρ' st' → Dn.bk σ' H'
  ct : ∀ W' H' ρ' σ' st', Le W H W' H' → Rel G W' H' st' → RpE G.K W' H' ρ' σ' → e.ct ρ' st' → Dn.ct σ' H'
  rt : ∀ W' H' d v st', Le W H W' H' → Rel G W' H' st' → Rp G.K W' H' d v → e.rt d st' → Dn.rt v H'
  xq : ∀ W' H' C st', Le W H W' H' → Rel G W' H' st' → e.xq C st' → E (.ref C) none H'
def tD (w : ME) : TE := fun σ H Q => ∃ W ρ st R xq, Rel G W H st ∧ RpE G.K W H ρ σ ∧ w ρ st R xq ∧ OutE G E W H R xq Q
def tDT (w : MT) : TT := fun σ H Q => ∃ W ρ st R xq, Rel G W H st ∧ RpE G.K W H ρ σ ∧ w ρ st R xq ∧ OutT G E W H R xq Q
def tDA (w : MA) : TA := fun σ H Q => ∃ W ρ st R xq, Rel G W H st ∧ RpE G.K W H ρ σ ∧ w ρ st R xq ∧ OutA G E W H R xq Q
def tDS (w : MS) : TS := fun Dn σ H => ∃ W ρ st e, Rel G W H st ∧ RpE G.K W H ρ σ ∧ w e ρ st ∧ OutS G E W H e Dn
end
section
variable {G : Gm} {E : XK} {W W' : Wd} {H H' : Hp}
theorem OutE.le {R : DQ} {xq : XQ} {Q : VK} (o : OutE G E W H R xq Q) (l : Le W H W' H') : OutE G E W' H' R xq Q :=
  ⟨fun _ _ _ _ _ q => o.rt _ _ _ _ _ (l.trans q), fun _ _ _ _ q => o.xq _ _ _ _ (l.trans q)⟩
theorem OutT.le {R : Bool → Sto → Prop} {xq : XQ} {Q : Bool → Hp → Prop} (o : OutT G E W H R xq Q) (l : Le W H W' H') : OutT G E W' H' R xq Q :=
  ⟨fun _ _ _ _ q => o.rt _ _ _ _ (l.trans q), fun _ _ _ _ q => o.xq _ _ _ _ (l.trans q)⟩
theorem OutA.le {R : List D → Sto → Prop} {xq : XQ} {Q : List V → Hp → Prop} (o : OutA G E W H R xq Q) (l : Le W H W' H') : OutA G E W' H' R xq Q :=
  ⟨fun _ _ _ _ _ q => o.rt _ _ _ _ _ (l.trans q), fun _ _ _ _ q => o.xq _ _ _ _ (l.trans q)⟩
theorem OutS.le {e : DEnds} {Dn : Ends} (o : OutS G E W H e Dn) (l : Le W H W' H') : OutS G E W' H' e Dn :=
  ⟨fun _ _ _ _ _ q => o.nx _ _ _ _ _ (l.trans q), fun _ _ _ _ _ q => o.bk _ _ _ _ _ (l.trans q), fun _ _ _ _ _ q => o.ct _ _ _ _ _ (l.trans q), fun _ _ _ _ _ q => o.rt _ _ _ _ _ (l.trans q), fun _ _ _ _ q => o.xq _ _ _ _ (l.trans q)⟩
end
/-! ## the judgements -/
def PDE (G : Gm) (E : XK) (X : Cx) (e : Expr) (w : ME) : Prop := PE X e (tD G E w)
def PDT (G : Gm) (E : XK) (X : Cx) (e : Expr) (w : MT) : Prop := PT X e (tDT G E w)
def PDW (G : Gm) (E : XK) (X : Cx) (e : Expr) (w : MT) : Prop := PW X e (tDT G E w)
def PDA (G : Gm) (E : XK) (X : Cx) (es : List Expr) (w : MA) : Prop := PA X es (tDA G E w)
def PDS (G : Gm) (E : XK) (X : Cx) (s : Stmt) (w : MS) : Prop := PS X s (tDS G E w)
def PDSs (G : Gm) (E : XK) (X : Cx) (s : List Stmt) (w : MS) : Prop := PSs X s (tDS G E w)
theorem PE.weak {X : Cx} {e : Expr} {t t' : TE} (h : PE X e t) (hw : ∀ σ H Q, t' σ H Q → t σ H Q) : PE X e t' := ⟨fun pins s σ H Q I q => h.run pins s σ H Q I (hw _ _ _ q)⟩
theorem PT.weak {X : Cx} {e : Expr} {t t' : TT} (h : PT X e t) (hw : ∀ σ H Q, t' σ H Q → t σ H Q) : PT X e t' := ⟨fun pins s σ H Q I q => h.run pins s σ H Q I (hw _ _ _ q)⟩
theorem PW.weak {X : Cx} {e : Expr} {t t' : TT} (h : PW X e t) (hw : ∀ σ H Q, t' σ H Q → t σ H Q) : PW X e t' := ⟨fun wh pins s σ H Q I q => h.run wh pins s σ H Q I (hw _ _ _ q)⟩
theorem PA.weak {X : Cx} {e : List Expr} {t t' : TA} (h : PA X e t) (hw : ∀ σ H Q, t' σ H Q → t σ H Q) : PA X e t' := ⟨fun pos pins s σ H Q I q => h.run pos pins s σ H Q I (hw _ _ _ q)⟩
theorem PS.weak {X : Cx} {s : Stmt} {t t' : TS} (h : PS X s t) (hw : ∀ D σ H, t' D σ H → t D σ H) : PS X s t' := ⟨fun pins s σ H D I q => h.run pins s σ H D I (hw _ _ _ q)⟩
theorem PSs.weak {X : Cx} {s : List Stmt} {t t' : TS} (h : PSs X s t) (hw : ∀ D σ H, t' D σ H → t D σ H) : PSs X s t' := ⟨fun pins s σ H D I q => h.run pins s σ H D I (hw _ _ _ q)⟩
end DL

set_option Elab.async false
set_option linter.all false
set_option maxRecDepth 100000
set_option autoImplicit false
namespace DL
open PySem PySem.Spec PyProof.Rows L2

/-! ## what data are -/
/-- a handle of a list: as the list -/
def dr (st : Sto) (d : D) : D := match d with
  | .hdl k => match st[k]? with
    | some (.lst xs) => .lst xs
    | _ => .hdl k
  | d => d
def onI (d : D) (k : Int → Prop) : Prop := match d with | .int i => k i | _ => False
def onB (d : D) (k : Bool → Prop) : Prop := match d with | .bl b => k b | _ => False
def onS (d : D) (k : Str → Prop) : Prop := match d with | .str b => k b | _ => False
/-- the items of a list, of a tuple -/
def onL (st : Sto) (d : D) (k : List D → Prop) : Prop := match dr st d with | .lst xs => k xs | .scr xs => k xs | _ => False
def onQ (st : Sto) (d : D) (k : List D → Prop) : Prop := match dr st d with | .lst xs => k xs | .scr xs => k xs | .tup xs => k xs | _ => False
section
variable {G : Gm} {W : Wd} {H : Hp} {st : Sto} {d : D} {v : V}
theorem dr_int {i : Int} (e : dr st d = .int i) : d = .int i := by
  unfold dr at e; split at e
  · split at e <;> cases e
  · exact e
theorem dr_str {i : Str} (e : dr st d = .str i) : d = .str i := by
  unfold dr at e; split at e
  · split at e <;> cases e
  · exact e
theorem dr_tup {i : List D} (e : dr st d = .tup i) : d = .tup i := by
  unfold dr at e; split at e
  · split at e <;> cases e
  · exact e
theorem dr_scr {i : List D} (e : dr st d = .scr i) : d = .scr i := by
  unfold dr at e; split at e
  · split at e <;> cases e
  · exact e
theorem dr_lst {xs : List D} (r : Rel G W H st) (p : Rp G.K W H d v) (e : dr st d = .lst xs) : ∃ a vs, v = .ref a ∧ H a = some (.lst vs) ∧ RpL G.K W H xs vs := by
  unfold dr at e; split at e
  · split at e
    · rename_i k _ ys q
      cases e
      simp only [Rp] at p
      obtain ⟨a, h1, rfl⟩ := p
      obtain ⟨b, h2, h3⟩ := r.cell _ _ q
      rw [h1] at h2; cases h2
      obtain ⟨vs, h4, h5⟩ := h3
      exact ⟨a, vs, rfl, h4, h5⟩
    · cases e
  · subst e
    simp only [Rp] at p
    obtain ⟨a, vs, rfl, _, _, h3, h4⟩ := p
    exact ⟨a, vs, rfl, h3, h4⟩
theorem scr_sq {xs : List D} (p : Rp G.K W H (.scr xs) v) : ∃ a vs, v = .ref a ∧ SqL G.K H a vs ∧ RpL G.K W H xs vs := by
  simp only [Rp] at p
  obtain ⟨a, vs, rfl, h3, h4⟩ := p
  exact ⟨a, vs, rfl, h3.sq, h4⟩
theorem tup_sq {xs : List D} (p : Rp G.K W H (.tup xs) v) : ∃ a vs, v = .ref a ∧ SqT G.K H a vs ∧ RpL G.K W H xs vs := by
  simp only [Rp] at p
  obtain ⟨a, vs, rfl, h3, h4⟩ := p
  exact ⟨a, vs, rfl, h3.sq, h4⟩
theorem onI_of {k : Int → Prop} (p : Rp G.K W H d v) (h : onI d k) : ∃ i, v = .int i ∧ k i := by
  unfold onI at h; split at h
  · simp only [Rp] at p; exact ⟨_, p, h⟩
  · cases h
theorem onB_of {k : Bool → Prop} (p : Rp G.K W H d v) (h : onB d k) : ∃ i, v = .bl i ∧ k i := by
  unfold onB at h; split at h
  · simp only [Rp] at p; exact ⟨_, p, h⟩
  · cases h
theorem onS_of {k : Str → Prop} (p : Rp G.K W H d v) (h : onS d k) : ∃ i, v = .str i ∧ k i := by
  unfold onS at h; split at h
  · simp only [Rp] at p; exact ⟨_, p, h⟩
  · cases h
theorem onL_of {k : List D → Prop} (r : Rel G W H st) (p : Rp G.K W H d v) (h : onL st d k) : ∃ a vs xs, v = .ref a ∧ SqL G.K H a vs ∧ RpL G.K W H xs vs ∧ k xs := by
  unfold onL at h
  split at h
  · rename_i xs e
    obtain ⟨a, vs, q1, q2, q3⟩ := dr_lst r p e
    exact ⟨a, vs, xs, q1, SqL.of q2, q3, h⟩
  · rename_i xs e
    obtain rfl := dr_scr e
    obtain ⟨a, vs, q1, q2, q3⟩ := scr_sq p
    exact ⟨a, vs, xs, q1, q2, q3, h⟩
  · cases h
theorem onQ_of {k : List D → Prop} (r : Rel G W H st) (p : Rp G.K W H d v) (h : onQ st d k) : ∃ a vs xs, v = .ref a ∧ (SqL G.K H a vs ∨ SqT G.K H a vs) ∧ RpL G.K W H xs vs ∧ k xs := by
  unfold onQ at h
  split at h
  · rename_i xs e
    obtain ⟨a, vs, q1, q2, q3⟩ := dr_lst r p e
    exact ⟨a, vs, xs, q1, .inl (SqL.of q2), q3, h⟩
  · rename_i xs e
    obtain rfl := dr_scr e
    obtain ⟨a, vs, q1, q2, q3⟩ := scr_sq p
    exact ⟨a, vs, xs, q1, .inl q2, q3, h⟩
  · rename_i xs e
    obtain rfl := dr_tup e
    obtain ⟨a, vs, q1, q2, q3⟩ := tup_sq p
    exact ⟨a, vs, xs, q1, .inr q2, q3, h⟩
  · cases h
end
@[simp] theorem onI_int (i : Int) (k : Int → Prop) : onI (.int i) k = k i := rfl
@[simp] theorem onB_bl (i : Bool) (k : Bool → Prop) : onB (.bl i) k = k i := rfl
@[simp] theorem onS_str (i : Str) (k : Str → Prop) : onS (.str i) k = k i := rfl
@[simp] theorem dr_intD (st : Sto) (i : Int) : dr st (.int i) = .int i := rfl
@[simp] theorem dr_blD (st : Sto) (i : Bool) : dr st (.bl i) = .bl i := rfl
@[simp] theorem dr_nonD (st : Sto) : dr st .non = .non := rfl
@[simp] theorem dr_strD (st : Sto) (i : Str) : dr st (.str i) = .str i := rfl
@[simp] theorem dr_lstD (st : Sto) (i : List D) : dr st (.lst i) = .lst i := rfl
@[simp] theorem dr_scrD (st : Sto) (i : List D) : dr st (.scr i) = .scr i := rfl
@[simp] theorem dr_tupD (st : Sto) (i : List D) : dr st (.tup i) = .tup i := rfl
theorem dr_hdl {st : Sto} {k : Nat} {xs : List D} (h : st[k]? = some (.lst xs)) : dr st (.hdl k) = .lst xs := by
  show (match st[k]? with | some (.lst xs) => D.lst xs | _ => .hdl k) = _
  rw [h]
@[simp] theorem onL_lst (st : Sto) (i : List D) (k : List D → Prop) : onL st (.lst i) k = k i := rfl
@[simp] theorem onL_scr (st : Sto) (i : List D) (k : List D → Prop) : onL st (.scr i) k = k i := rfl
@[simp] theorem onQ_lst (st : Sto) (i : List D) (k : List D → Prop) : onQ st (.lst i) k = k i := rfl
@[simp] theorem onQ_scr (st : Sto) (i : List D) (k : List D → Prop) : onQ st (.scr i) k = k i := rfl
@[simp] theorem onQ_tup (st : Sto) (i : List D) (k : List D → Prop) : onQ st (.tup i) k = k i := rfl
theorem onL_hdl {st : Sto} {j : Nat} {xs : List D} {k : List D → Prop} (h : st[j]? = some (.lst xs)) : onL st (.hdl j) k = k xs := by
  unfold onL; rw [dr_hdl h]
theorem onQ_hdl {st : Sto} {j : Nat} {xs : List D} {k : List D → Prop} (h : st[j]? = some (.lst xs)) : onQ st (.hdl j) k = k xs := by
  unfold onQ; rw [dr_hdl h]

/-! ## names, constants -/
section
variable {G : Gm} {E : XK} {X : Cx}
@[simp] def mVar (i : Nat) : ME := fun ρ st R _ => match ρ[i]? with | some (some d) => R d st | _ => False
@[simp] def mC (d : D) : ME := fun _ st R _ => R d st
theorem pd_var (i : Nat) {x : Str} {pos : Pos} (hN : X.N[i]? = some x := by rfl) (hv : Vis X.env.scope x := by first | exact Or.inl rfl | exact Or.inr (Or.inl rfl) | exact Or.inr (Or.inr rfl)) (hd : (x == ("__debug__" : Str)) = false := by decide)
    (hcd : (x == ("__classdict__" : Str)) = false := by decide) : PDE G E X (.Name x pos) (mVar i) :=
  PE.weak (pe_var hN hv hd hcd) fun σ H Q ⟨W, ρ, st, R, xq, rel, re, w, o⟩ => by
    unfold mVar at w
    split at w
    · rename_i d e
      obtain ⟨v, h1, h2⟩ := re.get i d e
      exact ⟨v, h1, o.rt W H d v st Le.refl rel h2 w⟩
    · cases w
theorem pd_c {e : Expr} {d : D} {v : V} (h : PE X e (tC v)) (hr : ∀ W H, Rp G.K W H d v) : PDE G E X e (mC d) :=
  PE.weak h fun σ H Q ⟨W, ρ, st, R, xq, rel, re, w, o⟩ => o.rt W H d v st Le.refl rel (hr W H) w
theorem pd_int {i j pos} : PDE G E X (.Constant (.int i) j pos) (mC (.int i)) := pd_c pe_int fun _ _ => rfl
theorem pd_bl {i j pos} : PDE G E X (.Constant (.bool i) j pos) (mC (.bl i)) := pd_c pe_bl fun _ _ => rfl
theorem pd_non {j pos} : PDE G E X (.Constant .none j pos) (mC .non) := pd_c pe_non fun _ _ => rfl
theorem pd_str {i j pos} : PDE G E X (.Constant (.str i) j pos) (mC (.str i)) := pd_c pe_str fun _ _ => rfl

/-! ## two-place operations -/
abbrev D2 := D → D → Sto → DQ → Prop
def OpD (G : Gm) (r : R2) (r' : D2) : Prop := ∀ (E : XK) (W : Wd) (H : Hp) (st : Sto) (dx dy : D) (x y : V) (R : DQ) (xq : XQ) (Q : VK),
  Rel G W H st → Rp G.K W H dx x → Rp G.K W H dy y → r' dx dy st R → OutE G E W H R xq Q → r x y H Q
@[simp] def mOp (r' : D2) (wa wb : ME) : ME := fun ρ st R xq => wa ρ st (fun x st1 => wb ρ st1 (fun y st2 => r' x y st2 R) xq) xq
theorem op_lift {r : R2} {r' : D2} {wa wb : ME} (hd : OpD G r r') {σ : L2.St} {H : Hp} {Q : VK} (h : tD G E (mOp r' wa wb) σ H Q) :
    tOp r (tD G E wa) (tD G E wb) σ H Q := by
  obtain ⟨W, ρ, st, R, xq, rel, re, w, o⟩ := h
  refine ⟨W, ρ, st, _, xq, rel, re, w, ⟨fun W1 H1 dx x st1 l1 rel1 rx w1 => ?_, o.xq⟩⟩
  refine ⟨W1, ρ, st1, _, xq, rel1, re.le l1, w1, ⟨fun W2 H2 dy y st2 l2 rel2 ry w2 => ?_, (o.le l1).xq⟩⟩
  exact hd E W2 H2 st2 dx dy x y R xq Q rel2 (rx.le l2) ry w2 (o.le (l1.trans l2))
theorem pd_op {a b : Expr} {wa wb : ME} {op : Operator} {r : R2} {r' : D2} {pos : Pos} (ho : OpR X (binaryOp op) r) (hd : OpD G r r') (ha : PDE G E X a wa) (hb : PDE G E X b wb) : PDE G E X (.BinOp a op b pos) (mOp r' wa wb) :=
  PE.weak (pe_op ho ha hb) fun _ _ _ h => op_lift hd h
theorem pd_cmp {a b : Expr} {wa wb : ME} {op : CmpOp} {r : R2} {r' : D2} {pos : Pos} (ho : OpR X (compareOp op) r) (hd : OpD G r r') (ha : PDE G E X a wa) (hb : PDE G E X b wb) (hm : behindInMarks op b = false := by first | exact nomark _ | rfl) : PDE G E X (.Compare a [op] [b] pos) (mOp r' wa wb) :=
  PE.weak (pe_cmpR ho ha hb hm) fun _ _ _ h => op_lift hd h
/-- a bool as a test -/
@[simp] def mTest (w : ME) : MT := fun ρ st R xq => w ρ st (fun d st' => onB d fun b => R b st') xq
theorem test_out {W : Wd} {H : Hp} {R : Bool → Sto → Prop} {xq : XQ} {Q : Bool → Hp → Prop} (o : OutT G E W H R xq Q) :
    OutE G E W H (fun d st' => onB d fun b => R b st') xq (fun x H' => ∃ k, x = .bl k ∧ Q k H') :=
  ⟨fun W' H' d v st' l rel rv h => by
    obtain ⟨b, e, h⟩ := onB_of rv h
    exact ⟨b, e, o.rt W' H' b st' l rel h⟩, o.xq⟩
theorem pt_cmp {a b : Expr} {wa wb : ME} {op : CmpOp} {r : R2} {r' : D2} {pos : Pos} (ho : OpR X (compareOp op) r) (hd : OpD G r r') (ha : PDE G E X a wa) (hb : PDE G E X b wb) (hm : behindInMarks op b = false := by first | exact nomark _ | rfl) : PDT G E X (.Compare a [op] [b] pos) (mTest (mOp r' wa wb)) :=
  PT.weak (pt_cmpR ho ha hb hm) fun σ H Q ⟨W, ρ, st, R, xq, rel, re, w, o⟩ => op_lift hd ⟨W, ρ, st, _, xq, rel, re, w, test_out o⟩
theorem pt_val {e : Expr} {w : ME} (h : PDE G E X e w) (he : ∀ whole, isTrue e X.env whole = (do let v ← whole; standAt e.pos; holding [v] (truthy v)) := by intro _; rfl) : PDT G E X e (mTest w) :=
  PT.weak (L2.pt_val h he) fun σ H Q ⟨W, ρ, st, R, xq, rel, re, w, o⟩ => ⟨W, ρ, st, _, xq, rel, re, w, test_out o⟩
@[simp] def mAnd (t u : MT) : MT := fun ρ st R xq => t ρ st (fun c st1 => if c = true then u ρ st1 R xq else R false st1) xq
@[simp] def mOr (t u : MT) : MT := fun ρ st R xq => t ρ st (fun c st1 => if c = true then R true st1 else u ρ st1 R xq) xq
@[simp] def mNot (t : MT) : MT := fun ρ st R xq => t ρ st (fun c st1 => R (!c) st1) xq
theorem pw_and1 {a : Expr} {t : MT} {pos : Pos} (h : PDT G E X a t) : PDW G E X (.BoolOp .And [a] pos) t := L2.pw_and1 h
theorem pw_or1 {a : Expr} {t : MT} {pos : Pos} (h : PDT G E X a t) : PDW G E X (.BoolOp .Or [a] pos) t := L2.pw_or1 h
theorem pw_and {a b : Expr} {rest : List Expr} {t u : MT} {pos : Pos} (ha : PDT G E X a t) (hb : PDW G E X (.BoolOp .And (b :: rest) pos) u) : PDW G E X (.BoolOp .And (a :: b :: rest) pos) (mAnd t u) :=
  PW.weak (L2.pw_and ha hb) fun σ H Q ⟨W, ρ, st, R, xq, rel, re, w, o⟩ =>
    ⟨W, ρ, st, _, xq, rel, re, w, ⟨fun W1 H1 c st1 l1 rel1 w1 => by
      cases c with
      | true => exact ⟨W1, ρ, st1, R, xq, rel1, re.le l1, w1, o.le l1⟩
      | false => exact o.rt W1 H1 false st1 l1 rel1 w1, o.xq⟩⟩
theorem pw_or {a b : Expr} {rest : List Expr} {t u : MT} {pos : Pos} (ha : PDT G E X a t) (hb : PDW G E X (.BoolOp .Or (b :: rest) pos) u) : PDW G E X (.BoolOp .Or (a :: b :: rest) pos) (mOr t u) :=
  PW.weak (L2.pw_or ha hb) fun σ H Q ⟨W, ρ, st, R, xq, rel, re, w, o⟩ =>
    ⟨W, ρ, st, _, xq, rel, re, w, ⟨fun W1 H1 c st1 l1 rel1 w1 => by
      cases c with
      | false => exact ⟨W1, ρ, st1, R, xq, rel1, re.le l1, w1, o.le l1⟩
      | true => exact o.rt W1 H1 true st1 l1 rel1 w1, o.xq⟩⟩
theorem pt_w {a : Expr} {t : MT} (h : PDW G E X a t) : PDT G E X a t := PW.pt h
theorem pt_not {a : Expr} {t : MT} {pos : Pos} (h : PDT G E X a t) : PDT G E X (.UnaryOp .Not a pos) (mNot t) :=
  PT.weak (L2.pt_not h) fun σ H Q ⟨W, ρ, st, R, xq, rel, re, w, o⟩ =>
    ⟨W, ρ, st, _, xq, rel, re, w, ⟨fun W1 H1 c st1 l1 rel1 w1 => o.rt W1 H1 (!c) st1 l1 rel1 w1, o.xq⟩⟩
/-- .. as values -/
@[simp] def mAndV (wa wb : ME) : ME := fun ρ st R xq => wa ρ st (fun d st1 => onB d fun c => if c = true then wb ρ st1 R xq else R (.bl false) st1) xq
@[simp] def mOrV (wa wb : ME) : ME := fun ρ st R xq => wa ρ st (fun d st1 => onB d fun c => if c = true then R (.bl true) st1 else wb ρ st1 R xq) xq
@[simp] def mNotV (wa : ME) : ME := fun ρ st R xq => wa ρ st (fun d st1 => onB d fun c => R (.bl (!c)) st1) xq
theorem pd_one {op} {a : Expr} {w : ME} {pos : Pos} (h : PDE G E X a w) : PDE G E X (.BoolOp op [a] pos) w := pe_one h
theorem pd_and {a b : Expr} {rest : List Expr} {wa wb : ME} {pos : Pos} (ha : PDE G E X a wa) (hb : PDE G E X (.BoolOp .And (b :: rest) pos) wb) : PDE G E X (.BoolOp .And (a :: b :: rest) pos) (mAndV wa wb) :=
  PE.weak (pe_and ha hb) fun σ H Q ⟨W, ρ, st, R, xq, rel, re, w, o⟩ =>
    ⟨W, ρ, st, _, xq, rel, re, w, ⟨fun W1 H1 d v st1 l1 rel1 rv w1 => by
      obtain ⟨c, e, w1⟩ := onB_of rv w1
      refine ⟨c, e, ?_⟩
      cases c with
      | true => exact ⟨W1, ρ, st1, R, xq, rel1, re.le l1, w1, o.le l1⟩
      | false => exact o.rt W1 H1 (.bl false) _ st1 l1 rel1 rfl w1, o.xq⟩⟩
theorem pd_or {a b : Expr} {rest : List Expr} {wa wb : ME} {pos : Pos} (ha : PDE G E X a wa) (hb : PDE G E X (.BoolOp .Or (b :: rest) pos) wb) : PDE G E X (.BoolOp .Or (a :: b :: rest) pos) (mOrV wa wb) :=
  PE.weak (pe_or ha hb) fun σ H Q ⟨W, ρ, st, R, xq, rel, re, w, o⟩ =>
    ⟨W, ρ, st, _, xq, rel, re, w, ⟨fun W1 H1 d v st1 l1 rel1 rv w1 => by
      obtain ⟨c, e, w1⟩ := onB_of rv w1
      refine ⟨c, e, ?_⟩
      cases c with
      | false => exact ⟨W1, ρ, st1, R, xq, rel1, re.le l1, w1, o.le l1⟩
      | true => exact o.rt W1 H1 (.bl true) _ st1 l1 rel1 rfl w1, o.xq⟩⟩
theorem pd_not {a : Expr} {wa : ME} {pos : Pos} (ha : PDE G E X a wa) : PDE G E X (.UnaryOp .Not a pos) (mNotV wa) :=
  PE.weak (pe_not ha) fun σ H Q ⟨W, ρ, st, R, xq, rel, re, w, o⟩ =>
    ⟨W, ρ, st, _, xq, rel, re, w, ⟨fun W1 H1 d v st1 l1 rel1 rv w1 => by
      obtain ⟨c, e, w1⟩ := onB_of rv w1
      exact ⟨c, e, o.rt W1 H1 (.bl (!c)) _ st1 l1 rel1 rfl w1⟩, o.xq⟩⟩
@[simp] def mIf (t : MT) (wa wb : ME) : ME := fun ρ st R xq => t ρ st (fun c st1 => if c = true then wa ρ st1 R xq else wb ρ st1 R xq) xq
theorem pd_if {c a b : Expr} {t : MT} {wa wb : ME} {pos : Pos} (hc : PDT G E X c t) (ha : PDE G E X a wa) (hb : PDE G E X b wb) : PDE G E X (.IfExp c a b pos) (mIf t wa wb) :=
  PE.weak (pe_ifExp hc ha hb) fun σ H Q ⟨W, ρ, st, R, xq, rel, re, w, o⟩ =>
    ⟨W, ρ, st, _, xq, rel, re, w, ⟨fun W1 H1 c st1 l1 rel1 w1 => by
      cases c with
      | true => exact ⟨W1, ρ, st1, R, xq, rel1, re.le l1, w1, o.le l1⟩
      | false => exact ⟨W1, ρ, st1, R, xq, rel1, re.le l1, w1, o.le l1⟩, o.xq⟩⟩

/-! ### numbers -/
@[simp] def dII (C : Int → Int → Prop) (g : Int → Int → D) : D2 := fun x y st R => onI x fun i => onI y fun j => C i j ∧ R (g i j) st
@[simp] def dII0 (g : Int → Int → D) : D2 := fun x y st R => onI x fun i => onI y fun j => R (g i j) st
theorem od_ii {C : Int → Int → Prop} {g : Int → Int → V} {g' : Int → Int → D} (h : ∀ W H i j, Rp G.K W H (g' i j) (g i j)) : OpD G (rI C g) (dII C g') := by
  intro E W H st dx dy x y R xq Q rel rx ry w o
  obtain ⟨i, e1, w⟩ := onI_of rx w
  obtain ⟨j, e2, hc, w⟩ := onI_of ry w
  exact ⟨i, j, e1, e2, hc, o.rt W H _ _ st Le.refl rel (h W H i j) w⟩
theorem od_ii0 {g : Int → Int → V} {g' : Int → Int → D} (h : ∀ W H i j, Rp G.K W H (g' i j) (g i j)) : OpD G (rI0 g) (dII0 g') := by
  intro E W H st dx dy x y R xq Q rel rx ry w o
  obtain ⟨i, e1, w⟩ := onI_of rx w
  obtain ⟨j, e2, w⟩ := onI_of ry w
  exact ⟨i, j, e1, e2, o.rt W H _ _ st Le.refl rel (h W H i j) w⟩
theorem OpD.or {r r' : R2} {d d' : D2} (h : OpD G r d) (h' : OpD G r' d') : OpD G (fun x y H Q => r x y H Q ∨ r' x y H Q) (fun x y st R => d x y st R ∨ d' x y st R) := by
  intro E W H st dx dy x y R xq Q rel rx ry w o
  rcases w with w | w
  · exact .inl (h E W H st dx dy x y R xq Q rel rx ry w o)
  · exact .inr (h' E W H st dx dy x y R xq Q rel rx ry w o)
@[simp] abbrev dSub : D2 := dII0 fun i j => .int (i - j)
theorem od_sub : OpD G (rI0 fun i j => .int (i - j)) dSub := od_ii0 fun _ _ _ _ => rfl
@[simp] abbrev dMulI : D2 := dII CMulX fun i j => .int (i * j)
@[simp] abbrev dDiv : D2 := dII CDivW fun i j => .int (i / j)
theorem od_div : OpD G (rI CDivW fun i j => .int (i / j)) dDiv := od_ii fun _ _ _ _ => rfl
@[simp] abbrev dMod : D2 := dII (fun _ j => 0 < j) fun i j => .int (i % j)
theorem od_mod : OpD G (rI (fun _ j => 0 < j) fun i j => .int (i % j)) dMod := od_ii fun _ _ _ _ => rfl
@[simp] abbrev dPow : D2 := dII CPow fun i j => .int (i ^ j.toNat)
theorem od_pow : OpD G (rI CPow fun i j => .int (i ^ j.toNat)) dPow := od_ii fun _ _ _ _ => rfl
@[simp] abbrev dShl : D2 := dII CPow fun i j => .int (i * 2 ^ j.toNat)
theorem od_shl : OpD G (rI CPow fun i j => .int (i * 2 ^ j.toNat)) dShl := od_ii fun _ _ _ _ => rfl
@[simp] abbrev dShr : D2 := dII (fun _ j => 0 ≤ j) fun i j => .int (i / 2 ^ j.toNat)
theorem od_shr : OpD G (rI (fun _ j => 0 ≤ j) fun i j => .int (i / 2 ^ j.toNat)) dShr := od_ii fun _ _ _ _ => rfl
@[simp] abbrev dBand : D2 := dII0 fun i j => .int (Builtin.bitAnd i j)
theorem od_band : OpD G (rI0 fun i j => .int (Builtin.bitAnd i j)) dBand := od_ii0 fun _ _ _ _ => rfl
@[simp] abbrev dBor : D2 := dII0 fun i j => .int (Builtin.bitOr i j)
theorem od_bor : OpD G (rI0 fun i j => .int (Builtin.bitOr i j)) dBor := od_ii0 fun _ _ _ _ => rfl
@[simp] abbrev dBxor : D2 := dII0 fun i j => .int (Builtin.bitXor i j)
theorem od_bxor : OpD G (rI0 fun i j => .int (Builtin.bitXor i j)) dBxor := od_ii0 fun _ _ _ _ => rfl
@[simp] abbrev dLt : D2 := dII0 fun i j => .bl (decide (i < j))
theorem od_lt : OpD G (rI0 fun i j => .bl (decide (i < j))) dLt := od_ii0 fun _ _ _ _ => rfl
@[simp] abbrev dLe : D2 := dII0 fun i j => .bl (decide (i ≤ j))
theorem od_le : OpD G (rI0 fun i j => .bl (decide (i ≤ j))) dLe := od_ii0 fun _ _ _ _ => rfl
@[simp] abbrev dGt : D2 := dII0 fun i j => .bl (decide (j < i))
theorem od_gt : OpD G (rI0 fun i j => .bl (decide (j < i))) dGt := od_ii0 fun _ _ _ _ => rfl
@[simp] abbrev dGe : D2 := dII0 fun i j => .bl (decide (j ≤ i))
theorem od_ge : OpD G (rI0 fun i j => .bl (decide (j ≤ i))) dGe := od_ii0 fun _ _ _ _ => rfl

/-! ### + : numbers, texts, lists -/
def rAddS : R2 := fun x y H Q => ∃ i j, x = .str i ∧ y = .str j ∧ i.length + j.length ≤ sizeLine ∧ Q (.str (i ++ j)) H
def rADD : R2 := fun x y H Q => rI0 (fun i j => .int (i + j)) x y H Q ∨ rAddS x y H Q ∨ rCat x y H Q
theorem op_ADD : OpR X (binaryOp .Add) rADD := op_add.or ((show OpR X (binaryOp .Add) rAddS from op_add_str).or op_cat)
@[simp] def dAdd : D2 := fun x y st R => match dr st x, dr st y with
  | .int i, .int j => R (.int (i + j)) st
  | .str i, .str j => i.length + j.length ≤ sizeLine ∧ R (.str (i ++ j)) st
  | .lst a, .lst b => a.length + b.length ≤ sizeLine ∧ R (.lst (a ++ b)) st
  | _, _ => False
theorem od_add : OpD G rADD dAdd := by
  intro E W H st dx dy x y R xq Q rel rx ry w o
  unfold dAdd at w
  split at w
  · rename_i i j e1 e2
    obtain rfl := dr_int e1
    obtain rfl := dr_int e2
    simp only [Rp] at rx ry
    exact .inl ⟨i, j, rx, ry, o.rt W H (.int (i + j)) _ st Le.refl rel rfl w⟩
  · rename_i i j e1 e2
    obtain rfl := dr_str e1
    obtain rfl := dr_str e2
    simp only [Rp] at rx ry
    exact .inr (.inl ⟨i, j, rx, ry, w.1, o.rt W H (.str (i ++ j)) _ st Le.refl rel rfl w.2⟩)
  · rename_i a b e1 e2
    obtain ⟨p, vs, h1, h2, h3⟩ := dr_lst rel rx e1
    obtain ⟨q, us, h4, h5, h6⟩ := dr_lst rel ry e2
    refine .inr (.inr ⟨p, q, vs, us, h1, h4, h2, h5, ?_, fun l hl => ?_⟩)
    · rw [h3.length, h6.length]; exact w.1
    · exact o.rt W _ (.lst (a ++ b)) _ st (Le.fresh hl) (rel.fresh hl) (newL rel hl (h3.append h6)) w.2
  · cases w
/-! ### * : numbers, a list so often -/
def rMUL : R2 := fun x y H Q => rI CMulX (fun i j => .int (i * j)) x y H Q ∨ rRep x y H Q
theorem op_MUL : OpR X (binaryOp .Mult) rMUL := op_mulX.or op_rep
@[simp] def dMul : D2 := fun x y st R => match dr st x, y with
  | .int i, .int j => CMulX i j ∧ R (.int (i * j)) st
  | .lst a, .int k => -(2 ^ 63) ≤ k ∧ k < 2 ^ 63 ∧ a.length * k.toNat ≤ sizeLine ∧ R (.lst (List.replicate k.toNat a).flatten) st
  | _, _ => False
theorem RpL.rep {K : PySem.W.Frag} {W : Wd} {H : Hp} {ds : List D} {vs : List V} (h : RpL K W H ds vs) : ∀ k : Nat, RpL K W H (List.replicate k ds).flatten (List.replicate k vs).flatten
  | 0 => RpL.nil
  | k + 1 => by
    simp only [List.replicate_succ, List.flatten_cons]
    exact h.append (RpL.rep h k)
theorem od_mul : OpD G rMUL dMul := by
  intro E W H st dx dy x y R xq Q rel rx ry w o
  unfold dMul at w
  split at w
  · rename_i i j e1
    obtain rfl := dr_int e1
    simp only [Rp] at rx ry
    exact .inl ⟨i, j, rx, ry, w.1, o.rt W H (.int (i * j)) _ st Le.refl rel rfl w.2⟩
  · rename_i a k e1
    obtain ⟨p, vs, h1, h2, h3⟩ := dr_lst rel rx e1
    simp only [Rp] at ry
    obtain ⟨w1, w2, w3, w4⟩ := w
    refine .inr ⟨p, k, vs, h1, ry, h2, w1, w2, by rw [h3.length]; exact w3, fun l hl => ?_⟩
    exact o.rt W _ (.lst _) _ st (Le.fresh hl) (rel.fresh hl) (newL rel hl (h3.rep _)) w4
  · cases w
/-! ### is -/
@[simp] def isNon : D → Bool | .non => true | .raw v => decide (v = .non) | _ => false
theorem isNon_eq {K : PySem.W.Frag} {W : Wd} {H : Hp} {d : D} {v : V} (h : Rp K W H d v) : decide (v = .non) = isNon d := by
  cases d with
  | non => simp only [Rp] at h; subst h; rfl
  | bl b => simp only [Rp] at h; subst h; rfl
  | int b => simp only [Rp] at h; subst h; rfl
  | str b => simp only [Rp] at h; subst h; rfl
  | lst b => simp only [Rp] at h; obtain ⟨a, vs, rfl, _⟩ := h; rfl
  | tup b => simp only [Rp] at h; obtain ⟨a, vs, rfl, _⟩ := h; rfl
  | scr b => simp only [Rp] at h; obtain ⟨a, vs, rfl, _⟩ := h; rfl
  | hdl b => simp only [Rp] at h; obtain ⟨a, _, rfl⟩ := h; rfl
  | raw b => simp only [Rp] at h; subst h; rfl
  | exc b => simp only [Rp] at h; obtain ⟨a, rfl, _⟩ := h; rfl
def rIsN : R2 := fun x y H Q => y = .non ∧ Q (.bl (decide (x = .non))) H
def rNotN : R2 := fun x y H Q => y = .non ∧ Q (.bl (!decide (x = .non))) H
@[simp] def dIsN : D2 := fun x y st R => match y with | .non => R (.bl (isNon x)) st | _ => False
@[simp] def dNotN : D2 := fun x y st R => match y with | .non => R (.bl (!isNon x)) st | _ => False
theorem op_isN' : OpR X (compareOp .Is) rIsN := op_isN
theorem op_notN' : OpR X (compareOp .IsNot) rNotN := op_notN
theorem od_isN : OpD G rIsN dIsN := by
  intro E W H st dx dy x y R xq Q rel rx ry w o
  unfold dIsN at w
  split at w
  · simp only [Rp] at ry
    exact ⟨ry, by rw [isNon_eq rx]; exact o.rt W H (.bl (isNon dx)) _ st Le.refl rel rfl w⟩
  · cases w
theorem od_notN : OpD G rNotN dNotN := by
  intro E W H st dx dy x y R xq Q rel rx ry w o
  unfold dNotN at w
  split at w
  · simp only [Rp] at ry
    exact ⟨ry, by rw [isNon_eq rx]; exact o.rt W H (.bl (!isNon dx)) _ st Le.refl rel rfl w⟩
  · cases w
/-! ### one-place operations -/
@[simp] def mUn (r' : D → Sto → DQ → Prop) (wa : ME) : ME := fun ρ st R xq => wa ρ st (fun x st1 => r' x st1 R) xq
def UnD (G : Gm) (r : V → Hp → VK → Prop) (r' : D → Sto → DQ → Prop) : Prop := ∀ (E : XK) (W : Wd) (H : Hp) (st : Sto) (dx : D) (x : V) (R : DQ) (xq : XQ) (Q : VK),
  Rel G W H st → Rp G.K W H dx x → r' dx st R → OutE G E W H R xq Q → r x H Q
theorem pd_un {a : Expr} {wa : ME} {op : UnaryOp} {r : V → Hp → VK → Prop} {r' : D → Sto → DQ → Prop} {pos : Pos} (ho : UnR X (unaryOp op) r) (hd : UnD G r r') (ha : PDE G E X a wa) : PDE G E X (.UnaryOp op a pos) (mUn r' wa) :=
  PE.weak (pe_un ho ha) fun σ H Q ⟨W, ρ, st, R, xq, rel, re, w, o⟩ =>
    ⟨W, ρ, st, _, xq, rel, re, w, ⟨fun W1 H1 dx x st1 l1 rel1 rx w1 => hd E W1 H1 st1 dx x R xq Q rel1 rx w1 (o.le l1), o.xq⟩⟩
@[simp] abbrev dNeg : D → Sto → DQ → Prop := fun x st R => onI x fun i => R (.int (-i)) st
theorem ud_neg : UnD G (rU fun i => .int (-i)) dNeg := by
  intro E W H st dx x R xq Q rel rx w o
  obtain ⟨i, e1, w⟩ := onI_of rx w
  exact ⟨i, e1, o.rt W H (.int (-i)) _ st Le.refl rel rfl w⟩
end
end DL

set_option Elab.async false
set_option linter.all false
set_option maxRecDepth 100000
set_option autoImplicit false
namespace DL
open PySem PySem.Spec PyProof.Rows L2

section
variable {G : Gm} {E : XK} {X : Cx}
/-! ### is, is not of truth values (the left may be None) -/
def rIsB : R2 := fun x y H Q => ∃ b : Bool, y = .bl b ∧ ((∃ a : Bool, x = .bl a ∧ Q (.bl (decide (a = b))) H) ∨ (x = .non ∧ Q (.bl false) H))
def rNotB : R2 := fun x y H Q => ∃ b : Bool, y = .bl b ∧ ((∃ a : Bool, x = .bl a ∧ Q (.bl (!decide (a = b))) H) ∨ (x = .non ∧ Q (.bl true) H))
theorem op_isB : OpR X (compareOp .Is) rIsB := by
  intro pins s σ H x y v u Q I rx ry h
  obtain ⟨b, rfl, ⟨a, rfl, q⟩ | ⟨rfl, q⟩⟩ := h
  · exact op_isBl pins s σ H (.bl a) (.bl b) v u Q I rx ry ⟨a, b, rfl, rfl, q⟩
  · cases (show v = Value.none from rx)
    cases (show u = Value.bool b from ry)
    exact wpAny_is_other rfl (fun z => by cases z) ⟨.bl false, H, I, rfl, q⟩
theorem op_notB : OpR X (compareOp .IsNot) rNotB := by
  intro pins s σ H x y v u Q I rx ry h
  obtain ⟨b, rfl, ⟨a, rfl, q⟩ | ⟨rfl, q⟩⟩ := h
  · exact op_notBl pins s σ H (.bl a) (.bl b) v u Q I rx ry ⟨a, b, rfl, rfl, q⟩
  · cases (show v = Value.none from rx)
    cases (show u = Value.bool b from ry)
    exact wpAny_isNot_other rfl (fun z => by cases z) ⟨.bl true, H, I, rfl, q⟩
@[simp] def dIsB : D2 := fun x y st R => onB y fun b => match x with | .bl a => R (.bl (decide (a = b))) st | .non => R (.bl false) st | _ => False
@[simp] def dNotB : D2 := fun x y st R => onB y fun b => match x with | .bl a => R (.bl (!decide (a = b))) st | .non => R (.bl true) st | _ => False
theorem od_isB : OpD G rIsB dIsB := by
  intro E W H st dx dy x y R xq Q rel rx ry w o
  obtain ⟨b, e, w⟩ := onB_of ry w
  split at w
  · simp only [Rp] at rx; exact ⟨b, e, .inl ⟨_, rx, o.rt W H (.bl _) _ st Le.refl rel rfl w⟩⟩
  · simp only [Rp] at rx; exact ⟨b, e, .inr ⟨rx, o.rt W H (.bl _) _ st Le.refl rel rfl w⟩⟩
  · cases w
theorem od_notB : OpD G rNotB dNotB := by
  intro E W H st dx dy x y R xq Q rel rx ry w o
  obtain ⟨b, e, w⟩ := onB_of ry w
  split at w
  · simp only [Rp] at rx; exact ⟨b, e, .inl ⟨_, rx, o.rt W H (.bl _) _ st Le.refl rel rfl w⟩⟩
  · simp only [Rp] at rx; exact ⟨b, e, .inr ⟨rx, o.rt W H (.bl _) _ st Le.refl rel rfl w⟩⟩
  · cases w

/-! ### arguments, displays -/
@[simp] def maNil : MA := fun _ st R _ => R [] st
@[simp] def maCons (w : ME) (r : MA) : MA := fun ρ st R xq => w ρ st (fun x st1 => r ρ st1 (fun xs st2 => R (x :: xs) st2) xq) xq
theorem ma_nil : PDA G E X [] maNil := PA.weak pa_nil fun σ H Q ⟨W, ρ, st, R, xq, rel, re, w, o⟩ => o.rt W H [] [] st Le.refl rel RpL.nil w
theorem ma_cons {e : Expr} {es : List Expr} {w : ME} {r : MA} (h : PDE G E X e w) (hr : PDA G E X es r) (hs : starEach (e :: es) X.env = (false, eval e X.env) :: starEach es X.env := by rfl) : PDA G E X (e :: es) (maCons w r) :=
  PA.weak (pa_cons h hr hs) fun σ H Q ⟨W, ρ, st, R, xq, rel, re, w, o⟩ =>
    ⟨W, ρ, st, _, xq, rel, re, w, ⟨fun W1 H1 d v st1 l1 rel1 rv w1 =>
      ⟨W1, ρ, st1, _, xq, rel1, re.le l1, w1, ⟨fun W2 H2 ds vs st2 l2 rel2 rvs w2 => o.rt W2 H2 (d :: ds) (v :: vs) st2 (l1.trans l2) rel2 (RpL.cons (rv.le l2) rvs) w2, (o.le l1).xq⟩⟩, o.xq⟩⟩
@[simp] def mLst (r : MA) : ME := fun ρ st R xq => r ρ st (fun xs st1 => xs.length ≤ sizeLine ∧ R (.lst xs) st1) xq
@[simp] def mTup (r : MA) : ME := fun ρ st R xq => r ρ st (fun xs st1 => xs.length ≤ sizeLine ∧ R (.tup xs) st1) xq
@[simp] def mLstH (r : MA) : ME := fun ρ st R xq => r ρ st (fun xs st1 => xs.length ≤ sizeLine ∧ R (.hdl st1.length) (st1 ++ [.lst xs])) xq
theorem pd_lst {es : List Expr} {r : MA} {pos : Pos} (h : PDA G E X es r) : PDE G E X (.List es pos) (mLst r) :=
  PE.weak (pe_lst h) fun σ H Q ⟨W, ρ, st, R, xq, rel, re, w, o⟩ =>
    ⟨W, ρ, st, _, xq, rel, re, w, ⟨fun W1 H1 ds vs st1 l1 rel1 rvs w1 => ⟨by rw [rvs.length]; exact w1.1, fun p hp =>
      o.rt W1 _ (.lst ds) _ st1 (l1.trans (Le.fresh hp)) (rel1.fresh hp) (newL rel1 hp rvs) w1.2⟩, o.xq⟩⟩
theorem pd_tup {es : List Expr} {r : MA} {j} {pos : Pos} (h : PDA G E X es r) : PDE G E X (.Tuple es j pos) (mTup r) :=
  PE.weak (pe_tup h) fun σ H Q ⟨W, ρ, st, R, xq, rel, re, w, o⟩ =>
    ⟨W, ρ, st, _, xq, rel, re, w, ⟨fun W1 H1 ds vs st1 l1 rel1 rvs w1 => ⟨by rw [rvs.length]; exact w1.1, fun p hp =>
      o.rt W1 _ (.tup ds) _ st1 (l1.trans (Le.fresh hp)) (rel1.fresh hp) (newT rel1 hp rvs) w1.2⟩, o.xq⟩⟩
theorem pd_lstH {es : List Expr} {r : MA} {pos : Pos} (h : PDA G E X es r) : PDE G E X (.List es pos) (mLstH r) :=
  PE.weak (pe_lst h) fun σ H Q ⟨W, ρ, st, R, xq, rel, re, w, o⟩ =>
    ⟨W, ρ, st, _, xq, rel, re, w, ⟨fun W1 H1 ds vs st1 l1 rel1 rvs w1 => ⟨by rw [rvs.length]; exact w1.1, fun p hp =>
      o.rt _ _ (.hdl st1.length) _ _ (l1.trans (Le.new hp)) (newHL rel1 hp rvs).1 (newHL rel1 hp rvs).2 w1.2⟩, o.xq⟩⟩
/-- {} -/
@[simp] def mDic : ME := fun _ st R _ => R (.hdl st.length) (st ++ [.dK []])
theorem pd_dic {pos : Pos} : PDE G E X (.Dict [] [] pos) mDic :=
  PE.weak pe_dnewK fun σ H Q ⟨W, ρ, st, R, xq, rel, re, w, o⟩ p hp =>
    let q := newHK (ds := []) (vs := []) rel hp rfl
    o.rt _ _ (.hdl st.length) _ _ (Le.new hp) q.1 q.2 w

/-! ### dicts -/
@[simp] def toK : D → Option Key
  | .int i => some (.inl i)
  | .str x => some (.inr x)
  | _ => none
def valD (kvs : List (Key × D)) (k : Key) : Option D := (kvs.find? fun kv => decide (kv.1 = k)).map (·.2)
def putD (kvs : List (Key × D)) (k : Key) (v : D) : List (Key × D) :=
  if (kvs.any fun kv => decide (kv.1 = k)) = true then kvs.map fun kv => if kv.1 = k then (kv.1, v) else kv else kvs ++ [(k, v)]
def dropD (kvs : List (Key × D)) (k : Key) : List (Key × D) := kvs.filter fun kv => decide (kv.1 ≠ k)
theorem toK_of {K : PySem.W.Frag} {W : Wd} {H : Hp} {d : D} {v : V} {k : Key} (h : Rp K W H d v) (e : toK d = some k) : v = kV k := by
  cases d <;> simp only [toK] at e <;> cases e <;> exact h
section
variable {K : PySem.W.Frag} {W : Wd} {H : Hp}
theorem RpK.any : ∀ {kvs : List (Key × D)} {vs : List (Key × V)} (k : Key), RpK K W H kvs vs → (kvs.any fun kv => decide (kv.1 = k)) = vs.any fun kv => decide (kv.1 = k)
  | [], _, _, h => by simp only [RpK] at h; subst h; rfl
  | (j, d) :: kvs, vs, k, h => by
    simp only [RpK] at h
    obtain ⟨v, r, rfl, h1, h2⟩ := h
    simp only [List.any_cons, RpK.any k h2]
theorem RpK.val : ∀ {kvs : List (Key × D)} {vs : List (Key × V)} (k : Key), RpK K W H kvs vs → (∃ d v, valD kvs k = some d ∧ valV vs k = some v ∧ Rp K W H d v) ∨ (valD kvs k = none ∧ valV vs k = none)
  | [], _, _, h => by simp only [RpK] at h; subst h; exact .inr ⟨rfl, rfl⟩
  | (j, d) :: kvs, vs, k, h => by
    simp only [RpK] at h
    obtain ⟨v, r, rfl, h1, h2⟩ := h
    by_cases e : j = k
    · exact .inl ⟨d, v, by simp [valD, e], by simp [valV, e], h1⟩
    · have a1 : valD ((j, d) :: kvs) k = valD kvs k := by simp [valD, e]
      have a2 : valV ((j, v) :: r) k = valV r k := by simp [valV, e]
      rw [a1, a2]
      exact RpK.val k h2
theorem RpK.append : ∀ {a b : List (Key × D)} {x y : List (Key × V)}, RpK K W H a x → RpK K W H b y → RpK K W H (a ++ b) (x ++ y)
  | [], _, _, _, h, h' => by simp only [RpK] at h; subst h; exact h'
  | (j, d) :: kvs, b, x, y, h, h' => by
    simp only [RpK] at h
    obtain ⟨v, r, rfl, h1, h2⟩ := h
    exact ⟨v, r ++ y, rfl, h1, RpK.append h2 h'⟩
theorem RpK.repl {k : Key} {d : D} {v : V} (hd : Rp K W H d v) : ∀ {a : List (Key × D)} {x : List (Key × V)}, RpK K W H a x → RpK K W H (a.map fun kv => if kv.1 = k then (kv.1, d) else kv) (x.map fun kv => if kv.1 = k then (kv.1, v) else kv)
  | [], _, h => by simp only [RpK] at h; subst h; rfl
  | (j, e) :: kvs, x, h => by
    simp only [RpK] at h
    obtain ⟨u, r, rfl, h1, h2⟩ := h
    by_cases q : j = k
    · simp only [List.map_cons, q, if_true]
      exact ⟨v, _, rfl, hd, RpK.repl hd h2⟩
    · simp only [List.map_cons, q, if_false]
      exact ⟨u, _, rfl, h1, RpK.repl hd h2⟩
theorem RpK.put {kvs : List (Key × D)} {vs : List (Key × V)} {k : Key} {d : D} {v : V} (h : RpK K W H kvs vs) (hd : Rp K W H d v) : RpK K W H (putD kvs k d) (putK vs k v) := by
  unfold putD putK
  rw [h.any k]
  split
  · exact h.repl hd
  · exact h.append ⟨v, [], rfl, hd, rfl⟩
theorem RpK.drop {k : Key} : ∀ {a : List (Key × D)} {x : List (Key × V)}, RpK K W H a x → RpK K W H (dropD a k) (dropK x k)
  | [], _, h => by simp only [RpK] at h; subst h; rfl
  | (j, e) :: kvs, x, h => by
    simp only [RpK] at h
    obtain ⟨u, r, rfl, h1, h2⟩ := h
    have ih := RpK.drop (k := k) h2
    unfold dropD dropK at ih ⊢
    by_cases q : j = k
    · have e1 : decide (j ≠ k) = false := by simp [q]
      simp only [List.filter_cons, e1]
      exact ih
    · have e1 : decide (j ≠ k) = true := by simp [q]
      simp only [List.filter_cons, e1]
      exact ⟨u, _, rfl, h1, ih⟩
theorem RpK.length : ∀ {a : List (Key × D)} {x : List (Key × V)}, RpK K W H a x → x.length = a.length
  | [], _, h => by simp only [RpK] at h; subst h; rfl
  | (j, e) :: kvs, x, h => by
    simp only [RpK] at h
    obtain ⟨u, r, rfl, h1, h2⟩ := h
    simp [RpK.length h2]
end
/-- the dict at a handle -/
def onK (st : Sto) (d : D) (k : Nat → List (Key × D) → Prop) : Prop := match d with
  | .hdl j => match st[j]? with | some (.dK kvs) => k j kvs | _ => False
  | _ => False
theorem onK_hdl {st : Sto} {j : Nat} {kvs : List (Key × D)} {k : Nat → List (Key × D) → Prop} (h : st[j]? = some (.dK kvs)) : onK st (.hdl j) k = k j kvs := by
  show (match st[j]? with | some (.dK kvs) => k j kvs | _ => False) = _
  rw [h]
theorem onK_of {W : Wd} {H : Hp} {st : Sto} {d : D} {v : V} {k : Nat → List (Key × D) → Prop} (r : Rel G W H st) (p : Rp G.K W H d v) (h : onK st d k) :
    ∃ j a kvs vs, v = .ref a ∧ W.m[j]? = some a ∧ H a = some (.dK vs) ∧ RpK G.K W H kvs vs ∧ k j kvs := by
  unfold onK at h
  split at h
  · split at h
    · rename_i j _ kvs e
      simp only [Rp] at p
      obtain ⟨a, h1, rfl⟩ := p
      obtain ⟨b, h2, vs, h3, h4⟩ := r.cell _ _ e
      rw [h1] at h2; cases h2
      exact ⟨_, a, kvs, vs, rfl, h1, h3, h4, h⟩
    · cases h
  · cases h
/-- a[b]: a list, a tuple, a text, a dict -/
def rIxK : R2 := fun x y H Q => ∃ a v, x = .ref a ∧ DGet H a y (some v) ∧ Q v H
theorem ix_dict (hu : X.A.units + 1 < cLine) : IxR X rIxK := by
  intro value slice pins s σ H x y v u Q I rx ry h hs
  obtain ⟨a, z, rfl, g, q⟩ := h
  cases (show v = Value.ref a from rx)
  exact tail_any (dict_typeIs I g) PySem.F.slot_dict_getitem.lookup (d_getItem hu I g ry fun w' s' I' r' => ⟨z, H, I', r', q⟩) hs
def rIX (K : PySem.W.Frag) : R2 := fun x y H Q => rIx K x y H Q ∨ rIxK x y H Q
theorem ix_ALL (hu : X.A.units + 1 < cLine) : IxR X (rIX X.K) := ix_seq.or (ix_dict hu)
@[simp] def dIx : D2 := fun x y st R => match dr st x, y with
  | .lst xs, .int i => ∃ d, atI xs i = some d ∧ R d st
  | .scr xs, .int i => ∃ d, atI xs i = some d ∧ R d st
  | .tup xs, .int i => ∃ d, atI xs i = some d ∧ R d st
  | .str z, .int i => z.length ≤ sizeLine ∧ ∃ c, atI z.cps.toList i = some c ∧ R (.str ⟨#[c]⟩) st
  | .hdl k, y => onK st (.hdl k) fun _ kvs => ∃ key d, toK y = some key ∧ valD kvs key = some d ∧ R d st
  | _, _ => False
theorem atI_rp {K : PySem.W.Frag} {W : Wd} {H : Hp} {xs : List D} {vs : List V} {i : Int} {d : D} (r : RpL K W H xs vs) (e : atI xs i = some d) : ∃ v, atI vs i = some v ∧ Rp K W H d v := by
  unfold atI at e ⊢
  rw [r.length]
  cases q : ixN xs.length i with
  | none => rw [q] at e; cases e
  | some j =>
    rw [q] at e
    exact r.get e
theorem dr_hdlE {st : Sto} {d : D} {k : Nat} (e : dr st d = .hdl k) : d = .hdl k := by
  unfold dr at e; split at e
  · split at e
    · cases e
    · exact e
  · exact e
theorem od_ix (hK : G.K = X.K) : OpD G (rIX X.K) dIx := by
  intro E W H st dx dy x y R xq Q rel rx ry w o
  rw [← hK]
  unfold dIx at w
  split at w
  · rename_i xs i e
    obtain ⟨p, vs, h1, h2, h3⟩ := dr_lst rel rx e
    obtain ⟨d, e2, w⟩ := w
    obtain ⟨v, e3, rv⟩ := atI_rp h3 e2
    exact .inl (.inl ⟨p, vs, i, v, h1, ry, SqL.of h2, e3, o.rt W H d v st Le.refl rel rv w⟩)
  · rename_i xs i e
    obtain rfl := dr_scr e
    obtain ⟨p, vs, h1, h2, h3⟩ := scr_sq rx
    obtain ⟨d, e2, w⟩ := w
    obtain ⟨v, e3, rv⟩ := atI_rp h3 e2
    exact .inl (.inl ⟨p, vs, i, v, h1, ry, h2, e3, o.rt W H d v st Le.refl rel rv w⟩)
  · rename_i xs i e
    obtain rfl := dr_tup e
    obtain ⟨p, vs, h1, h2, h3⟩ := tup_sq rx
    obtain ⟨d, e2, w⟩ := w
    obtain ⟨v, e3, rv⟩ := atI_rp h3 e2
    exact .inl (.inr (.inl ⟨p, vs, i, v, h1, ry, h2, e3, o.rt W H d v st Le.refl rel rv w⟩))
  · rename_i z i e
    obtain rfl := dr_str e
    obtain ⟨h0, c, e2, w⟩ := w
    exact .inl (.inr (.inr ⟨z, i, c, rx, ry, h0, e2, o.rt W H (.str _) _ st Le.refl rel rfl w⟩))
  · rename_i k y e
    obtain rfl := dr_hdlE e
    obtain ⟨j, a, kvs, vs, rfl, h1, h2, h3, key, d, e1, e2, w⟩ := onK_of rel rx w
    obtain rfl := toK_of ry e1
    rcases h3.val key with ⟨d', v, q1, q2, q3⟩ | ⟨q1, _⟩
    · rw [e2] at q1; cases q1
      refine .inr ⟨a, v, rfl, ?_, o.rt W H d v st Le.refl rel q3 w⟩
      rw [← q2]
      exact DGet.k h2
    · rw [e2] at q1; cases q1
  · cases w
theorem pd_ix {a b : Expr} {wa wb : ME} {pos : Pos} (hu : X.A.units + 1 < cLine) (ha : PDE G E X a wa) (hb : PDE G E X b wb) (hs : PlainIx b := by intro _ _; rfl) (hK : G.K = X.K := by rfl) : PDE G E X (.Subscript a b pos) (mOp dIx wa wb) :=
  PE.weak (pe_ix (ix_ALL hu) ha hb hs) fun _ _ _ h => op_lift (od_ix hK) h

/-! ### in, not in -/
def rInK (neg : Bool) : R2 := fun x y H Q => ∃ a o, y = .ref a ∧ DGet H a x o ∧ Q (.bl (if neg then !o.isSome else o.isSome)) H
theorem op_inK (hu : X.A.units + 1 < cLine) : OpR X (compareOp .In) (rInK false) := by
  intro pins s σ H x y v u Q I rx ry h
  obtain ⟨a, o, rfl, g, q⟩ := h
  cases (show u = Value.ref a from ry)
  exact d_in hu I g rx fun s' I' => ⟨.bl o.isSome, H, I', rfl, q⟩
theorem op_notInK (hu : X.A.units + 1 < cLine) : OpR X (compareOp .NotIn) (rInK true) := by
  intro pins s σ H x y v u Q I rx ry h
  obtain ⟨a, o, rfl, g, q⟩ := h
  cases (show u = Value.ref a from ry)
  exact d_notIn hu I g rx fun s' I' => ⟨.bl (!o.isSome), H, I', rfl, q⟩
def rInS (neg : Bool) : R2 := fun x y H Q => ∃ i j, x = .str i ∧ y = .str j ∧ Q (.bl (if neg then !(!(Builtin.Str.occurrences j i 0 j.length 1).isEmpty) else !(Builtin.Str.occurrences j i 0 j.length 1).isEmpty)) H
def rIN (K : PySem.W.Frag) (neg : Bool) : R2 := fun x y H Q => rIn K neg x y H Q ∨ rInK neg x y H Q ∨ rInS neg x y H Q
theorem op_IN (hu : X.A.units + 1 < cLine) : OpR X (compareOp .In) (rIN X.K false) := op_in_seq.or ((op_inK hu).or (show OpR X (compareOp .In) (rInS false) from op_in_str))
theorem op_NIN (hu : X.A.units + 1 < cLine) : OpR X (compareOp .NotIn) (rIN X.K true) := op_notIn_seq.or ((op_notInK hu).or (show OpR X (compareOp .NotIn) (rInS true) from op_notin_str))
@[simp] def flatD : D → Bool | .non => true | .bl _ => true | .int _ => true | .str _ => true | _ => false
def fv : D → V | .bl b => .bl b | .int i => .int i | .str x => .str x | _ => .non
theorem fv_of {K : PySem.W.Frag} {W : Wd} {H : Hp} {d : D} {v : V} (f : flatD d = true) (h : Rp K W H d v) : v = fv d := by
  cases d <;> first | (simp [flatD] at f; done) | exact h
theorem fv_all {K : PySem.W.Frag} {W : Wd} {H : Hp} : ∀ {ds : List D} {vs : List V}, ds.all flatD = true → RpL K W H ds vs → vs = ds.map fv ∧ vs.all flatV = true
  | [], _, _, h => by simp only [RpL] at h; subst h; exact ⟨rfl, rfl⟩
  | d :: ds, vs, f, h => by
    simp only [RpL] at h
    obtain ⟨v, r, rfl, h1, h2⟩ := h
    simp only [List.all_cons, Bool.and_eq_true] at f ⊢
    obtain ⟨e1, e2⟩ := fv_all f.2 h2
    have e3 := fv_of f.1 h1
    refine ⟨by rw [e1, e3]; rfl, ?_, e2⟩
    rw [e3]
    cases d <;> rfl
/-- == of flat data -/
def eqFD (x y : D) : Bool := eqV (fv x) (fv y)
theorem inV_map (x : D) (ds : List D) : inV (fv x) (ds.map fv) = ds.any fun y => eqFD y x := by
  unfold inV; rw [List.any_map]; rfl
@[simp] def dIN (neg : Bool) : D2 := fun x y st R => match dr st y with
  | .lst xs => flatD x = true ∧ xs.all flatD = true ∧ R (.bl (if neg then !(xs.any fun y => eqFD y x) else xs.any fun y => eqFD y x)) st
  | .scr xs => flatD x = true ∧ xs.all flatD = true ∧ R (.bl (if neg then !(xs.any fun y => eqFD y x) else xs.any fun y => eqFD y x)) st
  | .tup xs => flatD x = true ∧ xs.all flatD = true ∧ R (.bl (if neg then !(xs.any fun y => eqFD y x) else xs.any fun y => eqFD y x)) st
  | .str z => onS x fun i => R (.bl (if neg then !(!(Builtin.Str.occurrences z i 0 z.length 1).isEmpty) else !(Builtin.Str.occurrences z i 0 z.length 1).isEmpty)) st
  | .hdl k => onK st (.hdl k) fun _ kvs => ∃ key, toK x = some key ∧ R (.bl (if neg then !(valD kvs key).isSome else (valD kvs key).isSome)) st
  | _ => False
theorem od_in (hK : G.K = X.K) (neg : Bool) : OpD G (rIN X.K neg) (dIN neg) := by
  intro E W H st dx dy x y R xq Q rel rx ry w o
  rw [← hK]
  unfold dIN at w
  split at w
  · rename_i xs e
    obtain ⟨p, vs, h1, h2, h3⟩ := dr_lst rel ry e
    obtain ⟨f1, f2, w⟩ := w
    obtain ⟨e1, e2⟩ := fv_all f2 h3
    have e3 := fv_of f1 rx
    refine .inl ⟨p, vs, h1, .inl (SqL.of h2), ?_, e2, ?_⟩
    · rw [e3]; cases dx <;> rfl
    · rw [e1, e3, inV_map]; exact o.rt W H (.bl _) _ st Le.refl rel rfl w
  · rename_i xs e
    obtain rfl := dr_scr e
    obtain ⟨p, vs, h1, h2, h3⟩ := scr_sq ry
    obtain ⟨f1, f2, w⟩ := w
    obtain ⟨e1, e2⟩ := fv_all f2 h3
    have e3 := fv_of f1 rx
    refine .inl ⟨p, vs, h1, .inl h2, ?_, e2, ?_⟩
    · rw [e3]; cases dx <;> rfl
    · rw [e1, e3, inV_map]; exact o.rt W H (.bl _) _ st Le.refl rel rfl w
  · rename_i xs e
    obtain rfl := dr_tup e
    obtain ⟨p, vs, h1, h2, h3⟩ := tup_sq ry
    obtain ⟨f1, f2, w⟩ := w
    obtain ⟨e1, e2⟩ := fv_all f2 h3
    have e3 := fv_of f1 rx
    refine .inl ⟨p, vs, h1, .inr h2, ?_, e2, ?_⟩
    · rw [e3]; cases dx <;> rfl
    · rw [e1, e3, inV_map]; exact o.rt W H (.bl _) _ st Le.refl rel rfl w
  · rename_i z e
    obtain rfl := dr_str e
    obtain ⟨i, e1, w⟩ := onS_of rx w
    exact .inr (.inr ⟨i, z, e1, ry, o.rt W H (.bl _) _ st Le.refl rel rfl w⟩)
  · rename_i k e
    obtain rfl := dr_hdlE e
    obtain ⟨j, a, kvs, vs, rfl, h1, h2, h3, key, e1, w⟩ := onK_of rel ry w
    obtain rfl := toK_of rx e1
    refine .inr (.inl ⟨a, _, rfl, DGet.k h2, ?_⟩)
    rcases h3.val key with ⟨d', v, q1, q2, q3⟩ | ⟨q1, q2⟩
    · rw [q1] at w; rw [q2]; exact o.rt W H (.bl _) _ st Le.refl rel rfl w
    · rw [q1] at w; rw [q2]; exact o.rt W H (.bl _) _ st Le.refl rel rfl w
  · cases w
theorem pd_in {a b : Expr} {wa wb : ME} {pos : Pos} (hu : X.A.units + 1 < cLine) (ha : PDE G E X a wa) (hb : PDE G E X b wb) (hm : behindInMarks .In b = false := by rfl) (hK : G.K = X.K := by rfl) : PDE G E X (.Compare a [.In] [b] pos) (mOp (dIN false) wa wb) := pd_cmp (op_IN hu) (od_in hK false) ha hb hm
theorem pt_in {a b : Expr} {wa wb : ME} {pos : Pos} (hu : X.A.units + 1 < cLine) (ha : PDE G E X a wa) (hb : PDE G E X b wb) (hm : behindInMarks .In b = false := by rfl) (hK : G.K = X.K := by rfl) : PDT G E X (.Compare a [.In] [b] pos) (mTest (mOp (dIN false) wa wb)) := pt_cmp (op_IN hu) (od_in hK false) ha hb hm
theorem pd_nin {a b : Expr} {wa wb : ME} {pos : Pos} (hu : X.A.units + 1 < cLine) (ha : PDE G E X a wa) (hb : PDE G E X b wb) (hm : behindInMarks .NotIn b = false := by rfl) (hK : G.K = X.K := by rfl) : PDE G E X (.Compare a [.NotIn] [b] pos) (mOp (dIN true) wa wb) := pd_cmp (op_NIN hu) (od_in hK true) ha hb hm
theorem pt_nin {a b : Expr} {wa wb : ME} {pos : Pos} (hu : X.A.units + 1 < cLine) (ha : PDE G E X a wa) (hb : PDE G E X b wb) (hm : behindInMarks .NotIn b = false := by rfl) (hK : G.K = X.K := by rfl) : PDT G E X (.Compare a [.NotIn] [b] pos) (mTest (mOp (dIN true) wa wb)) := pt_cmp (op_NIN hu) (od_in hK true) ha hb hm

/-! ### slices -/
def cutD (xs : List D) (lo hi : Option Int) : List D := (xs.drop (HT.sIx xs.length 0 lo)).take (HT.sIx xs.length xs.length hi - HT.sIx xs.length 0 lo)
theorem cut_rp {K : PySem.W.Frag} {W : Wd} {H : Hp} {xs : List D} {vs : List V} (r : RpL K W H xs vs) (lo hi : Option Int) : RpL K W H (cutD xs lo hi) (cutV vs lo hi) := by
  unfold cutD cutV
  rw [r.length]
  exact (r.drop _).take _
abbrev MO := DEnv → Sto → (Option Int → Sto → Prop) → XQ → Prop
structure OutO (G : Gm) (E : XK) (W : Wd) (H : Hp) (R : Option Int → Sto → Prop) (xq : XQ) (Q : Option Int → Hp → Prop) : Prop where
  rt : ∀ W' H' b st', Le W H W' H' → Rel G W' H' st' → R b st' → Q b H'
  xq : ∀ W' H' C st', Le W H W' H' → Rel G W' H' st' → xq C st' → E (.ref C) none H'
def tDO (G : Gm) (E : XK) (w : MO) : TO := fun σ H Q => ∃ W ρ st R xq, Rel G W H st ∧ RpE G.K W H ρ σ ∧ w ρ st R xq ∧ OutO G E W H R xq Q
def PDO (G : Gm) (E : XK) (X : Cx) (e : Option Expr) (w : MO) : Prop := PO X e (tDO G E w)
theorem PO.weak {X : Cx} {e : Option Expr} {t t' : TO} (h : PO X e t) (hw : ∀ σ H Q, t' σ H Q → t σ H Q) : PO X e t' := ⟨fun pins s σ H Q I q => h.run pins s σ H Q I (hw _ _ _ q)⟩
@[simp] def moNone : MO := fun _ st R _ => R none st
@[simp] def moSome (w : ME) : MO := fun ρ st R xq => w ρ st (fun d st1 => onI d fun i => R (some i) st1) xq
theorem mo_none : PDO G E X none moNone := PO.weak po_none fun σ H Q ⟨W, ρ, st, R, xq, rel, re, w, o⟩ => o.rt W H none st Le.refl rel w
theorem mo_some {e : Expr} {w : ME} (h : PDE G E X e w) : PDO G E X (some e) (moSome w) := PO.weak (po_some h) fun σ H Q ⟨W, ρ, st, R, xq, rel, re, w, o⟩ =>
  ⟨W, ρ, st, _, xq, rel, re, w, ⟨fun W1 H1 d v st1 l1 rel1 rv w1 => by
    obtain ⟨i, e, w1⟩ := onI_of rv w1
    exact ⟨i, e, o.rt W1 H1 (some i) st1 l1 rel1 w1⟩, o.xq⟩⟩
def rSL (K : PySem.W.Frag) : V → Option Int → Option Int → Hp → VK → Prop := fun x lo hi H Q => rSlL K x lo hi H Q ∨ rSlT K x lo hi H Q
@[simp] def dSl (x : D) (lo hi : Option Int) (st : Sto) (R : DQ) : Prop := match dr st x with
  | .lst xs => R (.lst (cutD xs lo hi)) st
  | .scr xs => R (.lst (cutD xs lo hi)) st
  | .tup xs => ¬ (HT.sIx xs.length 0 lo = 0 ∧ HT.sIx xs.length xs.length hi = xs.length) ∧ R (.tup (cutD xs lo hi)) st
  | _ => False
@[simp] def mSl (we : ME) (wl wh : MO) : ME := fun ρ st R xq => we ρ st (fun x st1 => wl ρ st1 (fun lo st2 => wh ρ st2 (fun hi st3 => dSl x lo hi st3 R) xq) xq) xq
theorem sl_SL : SlR X (rSL X.K) := sl_list.or sl_tup
theorem pd_sl {e : Expr} {lo hi : Option Expr} {we : ME} {wl wh : MO} {pos p2 : Pos} (he : PDE G E X e we) (hl : PDO G E X lo wl) (hh : PDO G E X hi wh) (hK : G.K = X.K := by rfl) : PDE G E X (.Subscript e (.Slice lo hi none p2) pos) (mSl we wl wh) :=
  PE.weak (pe_slice sl_SL he hl hh) fun σ H Q ⟨W, ρ, st, R, xq, rel, re, w, o⟩ =>
  ⟨W, ρ, st, _, xq, rel, re, w, ⟨fun W1 H1 d v st1 l1 rel1 rv w1 =>
    ⟨W1, ρ, st1, _, xq, rel1, re.le l1, w1, ⟨fun W2 H2 lo st2 l2 rel2 w2 =>
      ⟨W2, ρ, st2, _, xq, rel2, re.le (l1.trans l2), w2, ⟨fun W3 H3 hi st3 l3 rel3 w3 => by
        have rv3 := rv.le (l2.trans l3)
        have o3 := o.le (l1.trans (l2.trans l3))
        rw [← hK]
        unfold dSl at w3
        split at w3
        · rename_i xs e
          obtain ⟨p, vs, h1, h2, h3⟩ := dr_lst rel3 rv3 e
          exact .inl ⟨p, vs, h1, SqL.of h2, fun q hq => o3.rt W3 _ (.lst _) _ st3 (Le.fresh hq) (rel3.fresh hq) (newL rel3 hq (cut_rp h3 lo hi)) w3⟩
        · rename_i xs e
          rw [dr_scr e] at rv3
          obtain ⟨p, vs, h1, h2, h3⟩ := scr_sq rv3
          exact .inl ⟨p, vs, h1, h2, fun q hq => o3.rt W3 _ (.lst _) _ st3 (Le.fresh hq) (rel3.fresh hq) (newL rel3 hq (cut_rp h3 lo hi)) w3⟩
        · rename_i xs e
          rw [dr_tup e] at rv3
          obtain ⟨p, vs, h1, h2, h3⟩ := tup_sq rv3
          exact .inr ⟨p, vs, h1, h2, by rw [h3.length]; exact w3.1, fun q hq => o3.rt W3 _ (.tup _) _ st3 (Le.fresh hq) (rel3.fresh hq) (newT rel3 hq (cut_rp h3 lo hi)) w3.2⟩
        · exact w3.elim, (o.le (l1.trans l2)).xq⟩⟩, (o.le l1).xq⟩⟩, o.xq⟩⟩

/-! ### built-in functions and types -/
abbrev D1 := List D → Sto → DQ → Prop
def CaD (G : Gm) (r : List V → Hp → VK → Prop) (r' : D1) : Prop := ∀ (E : XK) (W : Wd) (H : Hp) (st : Sto) (ds : List D) (vs : List V) (R : DQ) (xq : XQ) (Q : VK),
  Rel G W H st → RpL G.K W H ds vs → r' ds st R → OutE G E W H R xq Q → r vs H Q
@[simp] def mCa (r' : D1) (w : MA) : ME := fun ρ st R xq => w ρ st (fun ds st1 => r' ds st1 R) xq
theorem ca_lift {r : List V → Hp → VK → Prop} {r' : D1} {w : MA} (hd : CaD G r r') {σ : L2.St} {H : Hp} {Q : VK} (h : tD G E (mCa r' w) σ H Q) : tCB r (tDA G E w) σ H Q := by
  obtain ⟨W, ρ, st, R, xq, rel, re, w, o⟩ := h
  exact ⟨W, ρ, st, _, xq, rel, re, w, ⟨fun W1 H1 ds vs st1 l1 rel1 rv w1 => hd E W1 H1 st1 ds vs R xq Q rel1 rv w1 (o.le l1), o.xq⟩⟩
theorem pd_callB {x : Str} {p pos : Pos} {e : Expr} {es : List Expr} {id : String} {r : List V → Hp → VK → Prop} {r' : D1} {w : MA} (hc : CallR X (.builtin id) r) (hd : CaD G r r') (hm : X.mg x = none) (hv : bootBuiltins x = some (.builtin id)) (ha : PDA G E X (e :: es) w) (hg : Gl X x := by rfl) (hn : x ≠ "__name__" := by decide) (hdb : (x == ("__debug__" : Str)) = false := by decide)
    (he : starEach (e :: es) X.env = (false, eval e X.env) :: starEach es X.env := by rfl) (hpl : (backTo pos (starEach es X.env)).any (·.1) = false := by rfl) : PDE G E X (.Call (.Name x p) (e :: es) [] pos) (mCa r' w) :=
  PE.weak (pe_callB hc hg hm hv ha hn hdb he hpl) fun _ _ _ h => ca_lift hd h
theorem pd_callTy {x : Str} {p pos : Pos} {e : Expr} {es : List Expr} {T : String} {r : List V → Hp → VK → Prop} {r' : D1} {w : MA} (hc : CallR X (.type T) r) (hd : CaD G r r') (hm : X.mg x = none) (hv : bootBuiltins x = some (.type T)) (ha : PDA G E X (e :: es) w) (hg : Gl X x := by rfl) (hn : x ≠ "__name__" := by decide) (hdb : (x == ("__debug__" : Str)) = false := by decide)
    (he : starEach (e :: es) X.env = (false, eval e X.env) :: starEach es X.env := by rfl) (hpl : (backTo pos (starEach es X.env)).any (·.1) = false := by rfl) : PDE G E X (.Call (.Name x p) (e :: es) [] pos) (mCa r' w) :=
  PE.weak (pe_callTy hc hg hm hv ha hn hdb he hpl) fun _ _ _ h => ca_lift hd h
theorem rpl1 {K : PySem.W.Frag} {W : Wd} {H : Hp} {d : D} {vs : List V} (h : RpL K W H [d] vs) : ∃ v, vs = [v] ∧ Rp K W H d v := by
  simp only [RpL] at h
  obtain ⟨v, r, rfl, h1, rfl⟩ := h
  exact ⟨v, rfl, h1⟩
theorem rpl2 {K : PySem.W.Frag} {W : Wd} {H : Hp} {d e : D} {vs : List V} (h : RpL K W H [d, e] vs) : ∃ v u, vs = [v, u] ∧ Rp K W H d v ∧ Rp K W H e u := by
  simp only [RpL] at h
  obtain ⟨v, r, rfl, h1, u, r', rfl, h2, rfl⟩ := h
  exact ⟨v, u, rfl, h1, h2⟩
/-- len -/
def rLenA (K : PySem.W.Frag) : List V → Hp → VK → Prop := fun xs H Q => ∃ x n, xs = [x] ∧ LenV K x H n ∧ Q (.int n) H
def rLenK : List V → Hp → VK → Prop := fun xs H Q => ∃ d kvs, xs = [.ref d] ∧ H d = some (.dK kvs) ∧ Q (.int kvs.length) H
theorem call_lenK : CallR X (.builtin "len") rLenK := by
  intro pins s σ H xs us Q I r h
  obtain ⟨d, kvs, rfl, e, q⟩ := h
  obtain ⟨u, rfl, rx⟩ := vals1 r
  cases (show u = Value.ref d from rx)
  exact d_len I (.inl e) fun t s' I' => ⟨.int kvs.length, H, I', ⟨t, rfl⟩, q⟩
def rLEN (K : PySem.W.Frag) : List V → Hp → VK → Prop := fun xs H Q => rLenA K xs H Q ∨ rLenK xs H Q
theorem call_LEN : CallR X (.builtin "len") (rLEN X.K) := (show CallR X (.builtin "len") (rLenA X.K) from call_len).or call_lenK
@[simp] def dLen : D1 := fun ds st R => match ds with
  | [d] => match dr st d with
    | .lst xs => R (.int xs.length) st
    | .scr xs => R (.int xs.length) st
    | .tup xs => R (.int xs.length) st
    | .str z => z.length ≤ sizeLine ∧ R (.int z.length) st
    | .hdl k => onK st (.hdl k) fun _ kvs => R (.int kvs.length) st
    | _ => False
  | _ => False
theorem cd_len (hK : G.K = X.K) : CaD G (rLEN X.K) dLen := by
  intro E W H st ds vs R xq Q rel rs w o
  rw [← hK]
  unfold dLen at w
  split at w
  · rename_i d
    obtain ⟨v, rfl, rv⟩ := rpl1 rs
    split at w
    · rename_i xs e
      obtain ⟨p, vs, h1, h2, h3⟩ := dr_lst rel rv e
      subst h1
      exact .inl ⟨.ref p, vs.length, rfl, .inl ⟨vs, SqL.of h2, rfl⟩, by rw [h3.length]; exact o.rt W H (.int _) _ st Le.refl rel rfl w⟩
    · rename_i xs e
      rw [dr_scr e] at rv
      obtain ⟨p, vs, h1, h2, h3⟩ := scr_sq rv
      subst h1
      exact .inl ⟨.ref p, vs.length, rfl, .inl ⟨vs, h2, rfl⟩, by rw [h3.length]; exact o.rt W H (.int _) _ st Le.refl rel rfl w⟩
    · rename_i xs e
      rw [dr_tup e] at rv
      obtain ⟨p, vs, h1, h2, h3⟩ := tup_sq rv
      subst h1
      exact .inl ⟨.ref p, vs.length, rfl, .inr ⟨vs, h2, rfl⟩, by rw [h3.length]; exact o.rt W H (.int _) _ st Le.refl rel rfl w⟩
    · rename_i z e
      rw [dr_str e] at rv
      simp only [Rp] at rv
      subst rv
      exact .inl ⟨.str z, z.length, rfl, ⟨w.1, rfl⟩, o.rt W H (.int _) _ st Le.refl rel rfl w.2⟩
    · rename_i k e
      rw [dr_hdlE e] at rv
      obtain ⟨j, a, kvs, vs, rfl, h1, h2, h3, w⟩ := onK_of rel rv w
      exact .inr ⟨a, vs, rfl, h2, by rw [h3.length]; exact o.rt W H (.int _) _ st Le.refl rel rfl w⟩
    · cases w
  · cases w
/-- list(..), of a list or a tuple: as data, as a handle -/
@[simp] def dList : D1 := fun ds st R => match ds with | [d] => onQ st d fun xs => R (.lst xs) st | _ => False
@[simp] def dListH : D1 := fun ds st R => match ds with | [d] => onQ st d fun xs => R (.hdl st.length) (st ++ [.lst xs]) | _ => False
def rList (K : PySem.W.Frag) : List V → Hp → VK → Prop := fun xs H Q => ∃ p ys, xs = [.ref p] ∧ (SqL K H p ys ∨ SqT K H p ys) ∧ ∀ l, H l = none → Q (.ref l) (upd H l (.lst ys))
theorem call_LIST : CallR X (.type "list") (rList X.K) := call_list_of
theorem cd_list (hK : G.K = X.K) : CaD G (rList X.K) dList := by
  intro E W H st ds vs R xq Q rel rs w o
  rw [← hK]
  unfold dList at w
  split at w
  · obtain ⟨v, rfl, rv⟩ := rpl1 rs
    obtain ⟨a, vs, xs, rfl, h1, h2, w⟩ := onQ_of rel rv w
    exact ⟨a, vs, rfl, h1, fun l hl => o.rt W _ (.lst xs) _ st (Le.fresh hl) (rel.fresh hl) (newL rel hl h2) w⟩
  · cases w
theorem cd_listH (hK : G.K = X.K) : CaD G (rList X.K) dListH := by
  intro E W H st ds vs R xq Q rel rs w o
  rw [← hK]
  unfold dListH at w
  split at w
  · obtain ⟨v, rfl, rv⟩ := rpl1 rs
    obtain ⟨a, vs, xs, rfl, h1, h2, w⟩ := onQ_of rel rv w
    exact ⟨a, vs, rfl, h1, fun l hl => o.rt _ _ (.hdl st.length) _ _ (Le.new hl) (newHL rel hl h2).1 (newHL rel hl h2).2 w⟩
  · cases w
/-- tuple(..) -/
@[simp] def dTuple : D1 := fun ds st R => match ds with | [d] => onQ st d fun xs => R (.tup xs) st | _ => False
def rTuple (K : PySem.W.Frag) : List V → Hp → VK → Prop := fun xs H Q => ∃ p ys, xs = [.ref p] ∧ ((SqL K H p ys ∧ ∀ l, H l = none → Q (.ref l) (upd H l (.tup ys))) ∨ (SqT K H p ys ∧ Q (.ref p) H))
theorem call_TUPLE : CallR X (.type "tuple") (rTuple X.K) := call_tuple_of
theorem cd_tuple (hK : G.K = X.K) : CaD G (rTuple X.K) dTuple := by
  intro E W H st ds vs R xq Q rel rs w o
  rw [← hK]
  unfold dTuple at w
  split at w
  · obtain ⟨v, rfl, rv⟩ := rpl1 rs
    unfold onQ at w
    split at w
    · rename_i xs e
      obtain ⟨p, vs, h1, h2, h3⟩ := dr_lst rel rv e
      subst h1
      exact ⟨p, vs, rfl, .inl ⟨SqL.of h2, fun l hl => o.rt W _ (.tup xs) _ st (Le.fresh hl) (rel.fresh hl) (newT rel hl h3) w⟩⟩
    · rename_i xs e
      rw [dr_scr e] at rv
      obtain ⟨p, vs, h1, h2, h3⟩ := scr_sq rv
      subst h1
      exact ⟨p, vs, rfl, .inl ⟨h2, fun l hl => o.rt W _ (.tup xs) _ st (Le.fresh hl) (rel.fresh hl) (newT rel hl h3) w⟩⟩
    · rename_i xs e
      have e' := dr_tup e
      subst e'
      obtain ⟨p, vs, h1, h2, h3⟩ := tup_sq rv
      subst h1
      exact ⟨p, vs, rfl, .inr ⟨h2, o.rt W H (.tup xs) _ st Le.refl rel rv w⟩⟩
    · cases w
  · cases w
/-- int(..) of a number, of a truth value -/
@[simp] def dInt : D1 := fun ds st R => match ds with | [.int i] => R (.int i) st | [.bl k] => R (.int (if k then 1 else 0)) st | _ => False
def rInt : List V → Hp → VK → Prop := fun xs H Q => (∃ i, xs = [.int i] ∧ Q (.int i) H) ∨ ∃ k, xs = [.bl k] ∧ Q (.int (if k then 1 else 0)) H
theorem call_INT : CallR X (.type "int") rInt := call_int1
theorem cd_int : CaD G rInt dInt := by
  intro E W H st ds vs R xq Q rel rs w o
  unfold dInt at w
  split at w
  · obtain ⟨v, rfl, rv⟩ := rpl1 rs
    simp only [Rp] at rv; subst rv
    exact .inl ⟨_, rfl, o.rt W H (.int _) _ st Le.refl rel rfl w⟩
  · obtain ⟨v, rfl, rv⟩ := rpl1 rs
    simp only [Rp] at rv; subst rv
    exact .inr ⟨_, rfl, o.rt W H (.int _) _ st Le.refl rel rfl w⟩
  · cases w
/-- abs, max, min of numbers -/
@[simp] def dAbs : D1 := fun ds st R => match ds with | [.int i] => R (.int (if i < 0 then -i else i)) st | _ => False
theorem cd_abs : CaD G (fun xs H Q => ∃ i, xs = [.int i] ∧ Q (.int (if i < 0 then -i else i)) H) dAbs := by
  intro E W H st ds vs R xq Q rel rs w o
  unfold dAbs at w
  split at w
  · obtain ⟨v, rfl, rv⟩ := rpl1 rs
    simp only [Rp] at rv; subst rv
    exact ⟨_, rfl, o.rt W H (.int _) _ st Le.refl rel rfl w⟩
  · cases w
@[simp] def dII1 (g : Int → Int → D) : D1 := fun ds st R => match ds with | [.int i, .int j] => R (g i j) st | _ => False
theorem cd_ii {g : Int → Int → V} {g' : Int → Int → D} (h : ∀ W H i j, Rp G.K W H (g' i j) (g i j)) : CaD G (fun xs H Q => ∃ i j, xs = [.int i, .int j] ∧ Q (g i j) H) (dII1 g') := by
  intro E W H st ds vs R xq Q rel rs w o
  unfold dII1 at w
  split at w
  · obtain ⟨v, u, rfl, rv, ru⟩ := rpl2 rs
    simp only [Rp] at rv ru; subst rv; subst ru
    exact ⟨_, _, rfl, o.rt W H _ _ st Le.refl rel (h W H _ _) w⟩
  · cases w
@[simp] abbrev dMax2 : D1 := dII1 fun i j => .int (if j > i then j else i)
@[simp] abbrev dMin2 : D1 := dII1 fun i j => .int (if j < i then j else i)
theorem cd_max2 : CaD G (fun xs H Q => ∃ i j, xs = [.int i, .int j] ∧ Q (.int (if j > i then j else i)) H) dMax2 := cd_ii fun _ _ _ _ => rfl
theorem cd_min2 : CaD G (fun xs H Q => ∃ i j, xs = [.int i, .int j] ∧ Q (.int (if j < i then j else i)) H) dMin2 := cd_ii fun _ _ _ _ => rfl
/-- all, any of a list of truth values; sum of numbers -/
@[simp] def allB (xs : List D) : Option (List Bool) := match xs with
  | [] => some []
  | .bl b :: r => (allB r).map (b :: ·)
  | _ => none
theorem allB_rp {K : PySem.W.Frag} {W : Wd} {H : Hp} : ∀ {ds : List D} {vs : List V} {bs : List Bool}, RpL K W H ds vs → allB ds = some bs → vs = bs.map V.bl
  | [], _, bs, h, e => by simp only [RpL] at h; subst h; simp [allB] at e; subst e; rfl
  | d :: ds, vs, bs, h, e => by
    simp only [RpL] at h
    obtain ⟨v, r, rfl, h1, h2⟩ := h
    cases d with
    | bl b =>
      simp only [allB, Option.map_eq_some_iff] at e
      obtain ⟨cs, e1, rfl⟩ := e
      simp only [Rp] at h1
      rw [h1, allB_rp h2 e1]; rfl
    | _ => simp [allB] at e
@[simp] def dAll : D1 := fun ds st R => match ds with | [d] => onL st d fun xs => ∃ bs, allB xs = some bs ∧ R (.bl (bs.all id)) st | _ => False
@[simp] def dAny : D1 := fun ds st R => match ds with | [d] => onL st d fun xs => ∃ bs, allB xs = some bs ∧ R (.bl (bs.any id)) st | _ => False
theorem cd_all (hK : G.K = X.K) : CaD G (rAll X.K) dAll := by
  intro E W H st ds vs R xq Q rel rs w o
  rw [← hK]
  unfold dAll at w
  split at w
  · obtain ⟨v, rfl, rv⟩ := rpl1 rs
    obtain ⟨a, vs, xs, rfl, h1, h2, bs, e, w⟩ := onL_of rel rv w
    exact ⟨a, bs, rfl, by rw [← allB_rp h2 e]; exact h1, o.rt W H (.bl _) _ st Le.refl rel rfl w⟩
  · cases w
theorem cd_any (hK : G.K = X.K) : CaD G (rAny X.K) dAny := by
  intro E W H st ds vs R xq Q rel rs w o
  rw [← hK]
  unfold dAny at w
  split at w
  · obtain ⟨v, rfl, rv⟩ := rpl1 rs
    obtain ⟨a, vs, xs, rfl, h1, h2, bs, e, w⟩ := onL_of rel rv w
    exact ⟨a, bs, rfl, by rw [← allB_rp h2 e]; exact h1, o.rt W H (.bl _) _ st Le.refl rel rfl w⟩
  · cases w
@[simp] def allI (xs : List D) : Option (List Int) := match xs with
  | [] => some []
  | .int b :: r => (allI r).map (b :: ·)
  | _ => none
theorem allI_ints : ∀ ns : List Int, allI (ns.map D.int) = some ns
  | [] => rfl
  | n :: ns => by simp [allI, allI_ints ns]
theorem allB_bls : ∀ ns : List Bool, allB (ns.map D.bl) = some ns
  | [] => rfl
  | n :: ns => by simp [allB, allB_bls ns]
theorem allI_rp {K : PySem.W.Frag} {W : Wd} {H : Hp} : ∀ {ds : List D} {vs : List V} {bs : List Int}, RpL K W H ds vs → allI ds = some bs → vs = bs.map V.int
  | [], _, bs, h, e => by simp only [RpL] at h; subst h; simp [allI] at e; subst e; rfl
  | d :: ds, vs, bs, h, e => by
    simp only [RpL] at h
    obtain ⟨v, r, rfl, h1, h2⟩ := h
    cases d with
    | int b =>
      simp only [allI, Option.map_eq_some_iff] at e
      obtain ⟨cs, e1, rfl⟩ := e
      simp only [Rp] at h1
      rw [h1, allI_rp h2 e1]; rfl
    | _ => simp [allI] at e
@[simp] def dSum : D1 := fun ds st R => match ds with | [d] => onL st d fun xs => ∃ bs, allI xs = some bs ∧ R (.int bs.sum) st | _ => False
theorem cd_sum (hK : G.K = X.K) : CaD G (rSum X.K) dSum := by
  intro E W H st ds vs R xq Q rel rs w o
  rw [← hK]
  unfold dSum at w
  split at w
  · obtain ⟨v, rfl, rv⟩ := rpl1 rs
    obtain ⟨a, vs, xs, rfl, h1, h2, bs, e, w⟩ := onL_of rel rv w
    exact ⟨a, bs, rfl, by rw [← allI_rp h2 e]; exact h1, o.rt W H (.int _) _ st Le.refl rel rfl w⟩
  · cases w
/-- dict(d): a copy -/
@[simp] def dDict : D1 := fun ds st R => match ds with | [d] => onK st d fun _ kvs => R (.hdl st.length) (st ++ [.dK kvs]) | _ => False
def rDict : List V → Hp → VK → Prop := fun xs H Q => ∃ d kvs, xs = [.ref d] ∧ H d = some (.dK kvs) ∧ ∀ p, H p = none → Q (.ref p) (upd H p (.dK kvs))
theorem call_DICT : CallR X (.type "dict") rDict := by
  intro pins s σ H xs us Q I r h
  obtain ⟨d, kvs, rfl, e, q⟩ := h
  obtain ⟨u, rfl, rx⟩ := vals1 r
  cases (show u = Value.ref d from rx)
  exact d_copyOf I (.inl e) fun p s' hp I' => ⟨.ref p, _, I', rfl, q p hp⟩
theorem cd_dict : CaD G rDict dDict := by
  intro E W H st ds vs R xq Q rel rs w o
  unfold dDict at w
  split at w
  · obtain ⟨v, rfl, rv⟩ := rpl1 rs
    obtain ⟨j, a, kvs, vs, rfl, h1, h2, h3, w⟩ := onK_of rel rv w
    exact ⟨a, vs, rfl, h2, fun p hp => o.rt _ _ (.hdl st.length) _ _ (Le.new hp) (newHK rel hp h3).1 (newHK rel hp h3).2 w⟩
  · cases w
end
end DL

set_option Elab.async false
set_option linter.all false
set_option maxRecDepth 100000
set_option autoImplicit false
namespace DL
open PySem PySem.Spec PyProof.Rows L2

section
variable {G : Gm} {E : XK} {X : Cx}
/-! ### methods of lists -/
/-- the list at a handle -/
def onH (st : Sto) (d : D) (k : Nat → List D → Prop) : Prop := match d with
  | .hdl j => match st[j]? with | some (.lst xs) => k j xs | _ => False
  | _ => False
theorem onH_hdl {st : Sto} {j : Nat} {xs : List D} {k : Nat → List D → Prop} (h : st[j]? = some (.lst xs)) : onH st (.hdl j) k = k j xs := by
  show (match st[j]? with | some (.lst xs) => k j xs | _ => False) = _
  rw [h]
theorem onH_of {W : Wd} {H : Hp} {st : Sto} {d : D} {v : V} {k : Nat → List D → Prop} (r : Rel G W H st) (p : Rp G.K W H d v) (h : onH st d k) :
    ∃ j a xs vs, v = .ref a ∧ W.m[j]? = some a ∧ H a = some (.lst vs) ∧ RpL G.K W H xs vs ∧ k j xs := by
  unfold onH at h
  split at h
  · split at h
    · rename_i j _ xs e
      simp only [Rp] at p
      obtain ⟨a, h1, rfl⟩ := p
      obtain ⟨b, h2, vs, h3, h4⟩ := r.cell _ _ e
      rw [h1] at h2; cases h2
      exact ⟨_, a, xs, vs, rfl, h1, h3, h4, h⟩
    · cases h
  · cases h
theorem wrL {W : Wd} {H : Hp} {st : Sto} {j : Nat} {a : Addr} {xs : List D} {vs : List V} (r : Rel G W H st) (e : W.m[j]? = some a) (h : RpL G.K W H xs vs) : Rel G W (upd H a (.lst vs)) (st.set j (.lst xs)) :=
  r.write e ⟨vs, upd_same, h.le (Le.write (r.mem e))⟩
theorem wrK {W : Wd} {H : Hp} {st : Sto} {j : Nat} {a : Addr} {xs : List (Key × D)} {vs : List (Key × V)} (r : Rel G W H st) (e : W.m[j]? = some a) (h : RpK G.K W H xs vs) : Rel G W (upd H a (.dK vs)) (st.set j (.dK xs)) :=
  r.write e ⟨vs, upd_same, h.le (Le.write (r.mem e))⟩
abbrev DM := D → List D → Sto → DQ → Prop
def MeD (G : Gm) (r : V → List V → Hp → VK → Prop) (r' : DM) : Prop := ∀ (E : XK) (W : Wd) (H : Hp) (st : Sto) (dx : D) (ds : List D) (x : V) (vs : List V) (R : DQ) (xq : XQ) (Q : VK),
  Rel G W H st → Rp G.K W H dx x → RpL G.K W H ds vs → r' dx ds st R → OutE G E W H R xq Q → r x vs H Q
/-- what a method is asked of: a list -/
@[simp] def isLD (st : Sto) (d : D) : Prop := onL st d fun _ => True
theorem isLD_ty {W : Wd} {H : Hp} {st : Sto} {d : D} {v : V} (r : Rel G W H st) (p : Rp G.K W H d v) (h : isLD st d) : tyV G.K "list" v H := by
  obtain ⟨a, vs, xs, rfl, h1, _⟩ := onL_of r p h
  exact .inl ⟨rfl, _, h1⟩
@[simp] def mMe (r' : DM) (we : ME) (wa : MA) : ME := fun ρ st R xq => we ρ st (fun x st1 => isLD st1 x ∧ wa ρ st1 (fun xs st2 => r' x xs st2 R) xq) xq
@[simp] def mMe0 (r' : DM) (we : ME) : ME := fun ρ st R xq => we ρ st (fun x st1 => isLD st1 x ∧ r' x [] st1 R) xq
theorem pd_lm {o e : Expr} {es : List Expr} {we : ME} {wa : MA} {name : Str} {apos cpos : Pos} {id : String} {r : V → List V → Hp → VK → Prop} {r' : DM} (slot : PySem.Slot "list" name id) (hty : typeOf (.builtin id) = pure (.type "method_descriptor")) (hm : MtR X id r) (hd : MeD G r r') (ho : PDE G E X o we) (ha : PDA G E X (e :: es) wa)
    (hbase : attributeBase o name X.env (eval o X.env) = eval o X.env := by rfl)
    (hfew : ((backTo cpos (starEach (e :: es) X.env)).all (fun x => !x.1) && (backToKw cpos (keywordEach [] X.env)).all (fun x => x.1.isSome)
      && decide ((e :: es).length + ([] : List Keyword).length + (if ([] : List Keyword).isEmpty then 0 else 1) < 30)) = true := by rfl)
    (hline : (apos.endLine == cpos.line) = true := by rfl) (hs : starEach (e :: es) X.env = (false, eval e X.env) :: starEach es X.env := by rfl) (hplain : (backTo cpos (starEach es X.env)).any (·.1) = false := by rfl) (hK : G.K = X.K := by rfl) :
    PDE G E X (.Call (.Attribute o name apos) (e :: es) [] cpos) (mMe r' we wa) :=
  PE.weak (pe_bm PySem.F.plainAttrs_list slot hty hm ho ha hbase hfew hline hs hplain) fun σ H Q ⟨W, ρ, st, R, xq, rel, re, w, o⟩ =>
    ⟨W, ρ, st, _, xq, rel, re, w, ⟨fun W1 H1 dx x st1 l1 rel1 rx w1 =>
      ⟨by rw [← hK]; exact isLD_ty rel1 rx w1.1, W1, ρ, st1, _, xq, rel1, re.le l1, w1.2, ⟨fun W2 H2 ds vs st2 l2 rel2 rvs w2 =>
        hd E W2 H2 st2 dx ds x vs R xq Q rel2 (rx.le l2) rvs w2 (o.le (l1.trans l2)), (o.le l1).xq⟩⟩, o.xq⟩⟩
theorem pd_lm0 {o : Expr} {we : ME} {name : Str} {apos cpos : Pos} {id : String} {r : V → List V → Hp → VK → Prop} {r' : DM} (slot : PySem.Slot "list" name id) (hty : typeOf (.builtin id) = pure (.type "method_descriptor")) (hm : MtR X id r) (hd : MeD G r r') (ho : PDE G E X o we)
    (hbase : attributeBase o name X.env (eval o X.env) = eval o X.env := by rfl) (hline : (apos.endLine == cpos.line) = true := by rfl) (hK : G.K = X.K := by rfl) : PDE G E X (.Call (.Attribute o name apos) [] [] cpos) (mMe0 r' we) :=
  PE.weak (pe_bm0 PySem.F.plainAttrs_list slot hty hm ho hbase hline) fun σ H Q ⟨W, ρ, st, R, xq, rel, re, w, o⟩ =>
    ⟨W, ρ, st, _, xq, rel, re, w, ⟨fun W1 H1 dx x st1 l1 rel1 rx w1 =>
      ⟨by rw [← hK]; exact isLD_ty rel1 rx w1.1, hd E W1 H1 st1 dx [] x [] R xq Q rel1 rx RpL.nil w1.2 (o.le l1)⟩, o.xq⟩⟩
@[simp] def dApp : DM := fun x ds st R => match ds with | [y] => onH st x fun j xs => xs.length < sizeLine ∧ R .non (st.set j (.lst (xs ++ [y]))) | _ => False
theorem md_app : MeD G rAppend dApp := by
  intro E W H st dx ds x vs R xq Q rel rx rs w o
  unfold dApp at w
  split at w
  · obtain ⟨v, rfl, rv⟩ := rpl1 rs
    obtain ⟨j, a, xs, us, rfl, h1, h2, h3, h4, w⟩ := onH_of rel rx w
    exact ⟨a, us, v, rfl, rfl, h2, by rw [h3.length]; exact h4, o.rt W _ .non _ _ (Le.write (rel.mem h1)) (wrL rel h1 (h3.append (.one rv))) rfl w⟩
  · cases w
@[simp] def dExt : DM := fun x ds st R => match ds with | [y] => onH st x fun j xs => (match dr st y with | .lst ys => xs.length + ys.length ≤ sizeLine ∧ R .non (st.set j (.lst (xs ++ ys))) | _ => False) | _ => False
theorem md_ext : MeD G rExtend dExt := by
  intro E W H st dx ds x vs R xq Q rel rx rs w o
  unfold dExt at w
  split at w
  · obtain ⟨v, rfl, rv⟩ := rpl1 rs
    obtain ⟨j, a, xs, us, rfl, h1, h2, h3, w⟩ := onH_of rel rx w
    split at w
    · rename_i ys e
      obtain ⟨b, zs, rfl, h5, h6⟩ := dr_lst rel rv e
      exact ⟨a, b, us, zs, rfl, rfl, h2, h5, by rw [h3.length, h6.length]; exact w.1, o.rt W _ .non _ _ (Le.write (rel.mem h1)) (wrL rel h1 (h3.append h6)) rfl w.2⟩
    · cases w
  · cases w
@[simp] def dPop0 : DM := fun x ds st R => match ds with | [] => onH st x fun j xs => ∃ d, xs[xs.length - 1]? = some d ∧ R d (st.set j (.lst xs.dropLast)) | _ => False
theorem md_pop0 : MeD G rPop dPop0 := by
  intro E W H st dx ds x vs R xq Q rel rx rs w o
  unfold dPop0 at w
  split at w
  · simp only [RpL] at rs
    obtain ⟨j, a, xs, us, rfl, h1, h2, h3, d, h4, w⟩ := onH_of rel rx w
    obtain ⟨v, h5, h6⟩ := h3.get h4
    refine ⟨a, us, v, rfl, rs, h2, by rw [h3.length]; exact h5, ?_⟩
    have l := Le.write (H := H) (o := HO.lst us.dropLast) (rel.mem h1)
    refine o.rt W _ d v _ l (wrL rel h1 ?_) (h6.le l) w
    rw [List.dropLast_eq_take, List.dropLast_eq_take, h3.length]
    exact h3.take _
  · cases w
@[simp] def dPopAt : DM := fun x ds st R => match ds with | [.int i] => onH st x fun j xs => ∃ k d, seqIndex? i xs.length = some k ∧ xs[k]? = some d ∧ -(2 ^ 63) ≤ i ∧ i < 2 ^ 63 ∧ R d (st.set j (.lst (xs.eraseIdx k))) | _ => False
theorem md_popAt : MeD G rPopAt dPopAt := by
  intro E W H st dx ds x vs R xq Q rel rx rs w o
  unfold dPopAt at w
  split at w
  · obtain ⟨v, rfl, rv⟩ := rpl1 rs
    simp only [Rp] at rv; subst rv
    obtain ⟨j, a, xs, us, rfl, h1, h2, h3, k, d, h4, h5, h6, h7, w⟩ := onH_of rel rx w
    obtain ⟨v, h8, h9⟩ := h3.get h5
    refine ⟨a, us, _, k, v, rfl, rfl, h2, h6, h7, by rw [h3.length]; exact h4, h8, ?_⟩
    have l := Le.write (H := H) (o := HO.lst (us.eraseIdx k)) (rel.mem h1)
    exact o.rt W _ d v _ l (wrL rel h1 (h3.eraseIdx k)) (h9.le l) w
  · cases w
def rInsert : V → List V → Hp → VK → Prop := fun x vs H Q => ∃ (l : Addr) (xs : List V) (i : Int) (y : V), x = .ref l ∧ vs = [.int i, y] ∧ H l = some (.lst xs) ∧ xs.length < sizeLine ∧ 0 ≤ i ∧ i < 2 ^ 63 ∧
    Q .non (upd H l (.lst (xs.take i.toNat ++ [y] ++ xs.drop i.toNat)))
theorem mt_INSERT : MtR X "list.insert" rInsert := mt_insert
@[simp] def dIns : DM := fun x ds st R => match ds with | [.int i, y] => onH st x fun j xs => xs.length < sizeLine ∧ 0 ≤ i ∧ i < 2 ^ 63 ∧ R .non (st.set j (.lst (xs.take i.toNat ++ [y] ++ xs.drop i.toNat))) | _ => False
theorem md_ins : MeD G rInsert dIns := by
  intro E W H st dx ds x vs R xq Q rel rx rs w o
  unfold dIns at w
  split at w
  · obtain ⟨v, u, rfl, rv, ru⟩ := rpl2 rs
    simp only [Rp] at rv; subst rv
    obtain ⟨j, a, xs, us, rfl, h1, h2, h3, h4, h5, h6, w⟩ := onH_of rel rx w
    exact ⟨a, us, _, u, rfl, rfl, h2, by rw [h3.length]; exact h4, h5, h6, o.rt W _ .non _ _ (Le.write (rel.mem h1)) (wrL rel h1 (((h3.take _).append (.one ru)).append (h3.drop _))) rfl w⟩
  · cases w
@[simp] def dClr : DM := fun x ds st R => match ds with | [] => onH st x fun j xs => R .non (st.set j (.lst [])) | _ => False
theorem md_clr : MeD G rClear dClr := by
  intro E W H st dx ds x vs R xq Q rel rx rs w o
  unfold dClr at w
  split at w
  · simp only [RpL] at rs
    obtain ⟨j, a, xs, us, rfl, h1, h2, h3, w⟩ := onH_of rel rx w
    exact ⟨a, us, rfl, rs, h2, o.rt W _ .non _ _ (Le.write (rel.mem h1)) (wrL rel h1 RpL.nil) rfl w⟩
  · cases w

/-! ### methods of dicts -/
@[simp] def isKD (st : Sto) (d : D) : Prop := onK st d fun _ _ => True
theorem isKD_is {W : Wd} {H : Hp} {st : Sto} {d : D} {v : V} (r : Rel G W H st) (p : Rp G.K W H d v) (h : isKD st d) : ∃ a, v = .ref a ∧ IsD H a := by
  obtain ⟨j, a, kvs, vs, rfl, _, h1, _⟩ := onK_of r p h
  exact ⟨a, rfl, .inl ⟨_, .inl h1⟩⟩
@[simp] def mGet1 (we wk : ME) : ME := fun ρ st R xq => we ρ st (fun x st1 => isKD st1 x ∧ wk ρ st1 (fun k st2 => onK st2 x fun _ kvs => ∃ key, toK k = some key ∧ R ((valD kvs key).getD .non) st2) xq) xq
@[simp] def mGet2 (we wk wd : ME) : ME := fun ρ st R xq => we ρ st (fun x st1 => isKD st1 x ∧ wk ρ st1 (fun k st2 => wd ρ st2 (fun z st3 => onK st3 x fun _ kvs => ∃ key, toK k = some key ∧ R ((valD kvs key).getD z) st3) xq) xq) xq
@[simp] def mSetd (we wk wd : ME) : ME := fun ρ st R xq => we ρ st (fun x st1 => isKD st1 x ∧ wk ρ st1 (fun k st2 => wd ρ st2 (fun z st3 => onK st3 x fun j kvs => kvs.length < sizeLine ∧ ∃ key, toK k = some key ∧
  (match valD kvs key with | some d => R d st3 | none => R z (st3.set j (.dK (putD kvs key z))))) xq) xq) xq
@[simp] def mDPop1 (we wk : ME) : ME := fun ρ st R xq => we ρ st (fun x st1 => isKD st1 x ∧ wk ρ st1 (fun k st2 => onK st2 x fun j kvs => ∃ key d, toK k = some key ∧ valD kvs key = some d ∧ R d (st2.set j (.dK (dropD kvs key)))) xq) xq
theorem pd_get1 {o e : Expr} {we wk : ME} {apos cpos : Pos} (hu : X.A.units + 1 < cLine) (ho : PDE G E X o we) (he : PDE G E X e wk) (m : M1 X o "get" apos e cpos := by exact ⟨rfl, rfl, rfl, rfl⟩) : PDE G E X (.Call (.Attribute o "get" apos) [e] [] cpos) (mGet1 we wk) :=
  PE.weak (pe_dget1 hu ho he m) fun σ H Q ⟨W, ρ, st, R, xq, rel, re, w, o⟩ =>
    ⟨W, ρ, st, _, xq, rel, re, w, ⟨fun W1 H1 dx x st1 l1 rel1 rx w1 => by
      obtain ⟨a, rfl, isd⟩ := isKD_is rel1 rx w1.1
      refine ⟨a, rfl, isd, W1, ρ, st1, _, xq, rel1, re.le l1, w1.2, ⟨fun W2 H2 dk k st2 l2 rel2 rk w2 => ?_, (o.le l1).xq⟩⟩
      obtain ⟨j, b, kvs, vs, e0, h1, h2, h3, key, e1, w2⟩ := onK_of rel2 (rx.le l2) w2
      cases e0
      obtain rfl := toK_of rk e1
      refine ⟨valV vs key, DGet.k h2, ?_⟩
      rcases h3.val key with ⟨d', v, q1, q2, q3⟩ | ⟨q1, q2⟩
      · rw [q1] at w2; rw [q2]; exact o.rt W2 H2 d' v st2 (l1.trans l2) rel2 q3 w2
      · rw [q1] at w2; rw [q2]; exact o.rt W2 H2 .non .non st2 (l1.trans l2) rel2 rfl w2, o.xq⟩⟩
theorem pd_get2 {o e f : Expr} {we wk wd : ME} {apos cpos : Pos} (hu : X.A.units + 1 < cLine) (ho : PDE G E X o we) (he : PDE G E X e wk) (hf : PDE G E X f wd) (m : M2 X o "get" apos e f cpos := by exact ⟨rfl, rfl, rfl, rfl⟩) : PDE G E X (.Call (.Attribute o "get" apos) [e, f] [] cpos) (mGet2 we wk wd) :=
  PE.weak (pe_dget2 hu ho he hf m) fun σ H Q ⟨W, ρ, st, R, xq, rel, re, w, o⟩ =>
    ⟨W, ρ, st, _, xq, rel, re, w, ⟨fun W1 H1 dx x st1 l1 rel1 rx w1 => by
      obtain ⟨a, rfl, isd⟩ := isKD_is rel1 rx w1.1
      refine ⟨a, rfl, isd, W1, ρ, st1, _, xq, rel1, re.le l1, w1.2, ⟨fun W2 H2 dk k st2 l2 rel2 rk w2 => ?_, (o.le l1).xq⟩⟩
      refine ⟨W2, ρ, st2, _, xq, rel2, re.le (l1.trans l2), w2, ⟨fun W3 H3 dz z st3 l3 rel3 rz w3 => ?_, (o.le (l1.trans l2)).xq⟩⟩
      obtain ⟨j, b, kvs, vs, e0, h1, h2, h3, key, e1, w3⟩ := onK_of rel3 (rx.le (l2.trans l3)) w3
      cases e0
      obtain rfl := toK_of rk e1
      refine ⟨valV vs key, DGet.k h2, ?_⟩
      rcases h3.val key with ⟨d', v, q1, q2, q3⟩ | ⟨q1, q2⟩
      · rw [q1] at w3; rw [q2]; exact o.rt W3 H3 d' v st3 (l1.trans (l2.trans l3)) rel3 q3 w3
      · rw [q1] at w3; rw [q2]; exact o.rt W3 H3 dz z st3 (l1.trans (l2.trans l3)) rel3 rz w3, o.xq⟩⟩
theorem pd_dpop1 {o e : Expr} {we wk : ME} {apos cpos : Pos} (ho : PDE G E X o we) (he : PDE G E X e wk) (m : M1 X o "pop" apos e cpos := by exact ⟨rfl, rfl, rfl, rfl⟩) : PDE G E X (.Call (.Attribute o "pop" apos) [e] [] cpos) (mDPop1 we wk) :=
  PE.weak (pe_dpop1 ho he m) fun σ H Q ⟨W, ρ, st, R, xq, rel, re, w, o⟩ =>
    ⟨W, ρ, st, _, xq, rel, re, w, ⟨fun W1 H1 dx x st1 l1 rel1 rx w1 => by
      obtain ⟨a, rfl, isd⟩ := isKD_is rel1 rx w1.1
      refine ⟨a, rfl, isd, W1, ρ, st1, _, xq, rel1, re.le l1, w1.2, ⟨fun W2 H2 dk k st2 l2 rel2 rk w2 => ?_, (o.le l1).xq⟩⟩
      obtain ⟨j, b, kvs, vs, e0, h1, h2, h3, key, d, e1, e2, w2⟩ := onK_of rel2 (rx.le l2) w2
      cases e0
      obtain rfl := toK_of rk e1
      rcases h3.val key with ⟨d', v, q1, q2, q3⟩ | ⟨q1, q2⟩
      · rw [q1] at e2; cases e2
        have l := Le.write (H := H2) (o := HO.dK (dropK vs key)) (rel2.mem h1)
        exact ⟨vs, key, v, h2, rfl, q2, o.rt W2 _ d v _ (l1.trans (l2.trans l)) (wrK rel2 h1 h3.drop) (q3.le l) w2⟩
      · rw [q1] at e2; exact (nomatch e2), o.xq⟩⟩
theorem pd_setd {o e f : Expr} {we wk wd : ME} {apos cpos : Pos} (ho : PDE G E X o we) (he : PDE G E X e wk) (hf : PDE G E X f wd) (m : M2 X o "setdefault" apos e f cpos := by exact ⟨rfl, rfl, rfl, rfl⟩) : PDE G E X (.Call (.Attribute o "setdefault" apos) [e, f] [] cpos) (mSetd we wk wd) :=
  PE.weak (pe_dsetd ho he hf m) fun σ H Q ⟨W, ρ, st, R, xq, rel, re, w, o⟩ =>
    ⟨W, ρ, st, _, xq, rel, re, w, ⟨fun W1 H1 dx x st1 l1 rel1 rx w1 => by
      obtain ⟨a, rfl, isd⟩ := isKD_is rel1 rx w1.1
      refine ⟨a, rfl, isd, W1, ρ, st1, _, xq, rel1, re.le l1, w1.2, ⟨fun W2 H2 dk k st2 l2 rel2 rk w2 => ?_, (o.le l1).xq⟩⟩
      refine ⟨W2, ρ, st2, _, xq, rel2, re.le (l1.trans l2), w2, ⟨fun W3 H3 dz z st3 l3 rel3 rz w3 => ?_, (o.le (l1.trans l2)).xq⟩⟩
      obtain ⟨j, b, kvs, vs, e0, h1, h2, h3, hl, key, e1, w3⟩ := onK_of rel3 (rx.le (l2.trans l3)) w3
      cases e0
      obtain rfl := toK_of (rk.le l3) e1
      have l := l1.trans (l2.trans l3)
      refine ⟨vs, key, h2, rfl, by rw [h3.length]; exact hl, fun v hv => ?_, fun hn => ?_⟩
      · rcases h3.val key with ⟨d', v', q1, q2, q3⟩ | ⟨q1, q2⟩
        · rw [q1] at w3; rw [q2] at hv; cases hv; exact o.rt W3 H3 d' v st3 l rel3 q3 w3
        · rw [q2] at hv; cases hv
      · rcases h3.val key with ⟨d', v', q1, q2, q3⟩ | ⟨q1, q2⟩
        · rw [q2] at hn; cases hn
        · rw [q1] at w3
          have l4 := Le.write (H := H3) (o := HO.dK (putK vs key z)) (rel3.mem h1)
          exact o.rt W3 _ dz z _ (l.trans l4) (wrK rel3 h1 (h3.put rz)) (rz.le l4) w3, o.xq⟩⟩
end
end DL

set_option Elab.async false
set_option linter.all false
set_option maxRecDepth 100000
set_option autoImplicit false
namespace DL
open PySem PySem.Spec PyProof.Rows L2

/-! ## instances -/
@[simp] def fldN (fs : List (Nat × D)) (n : Nat) : Option D := match fs with
  | [] => none
  | (m, d) :: r => if m = n then some d else fldN r n
@[simp] def putN (n : Nat) (d : D) : List (Nat × D) → List (Nat × D)
  | [] => [(n, d)]
  | (m, e) :: r => if m = n then (m, d) :: r else (m, e) :: putN n d r
section
variable {K : PySem.W.Frag} {W : Wd} {H : Hp} {N : List Str}
theorem nodup_ix' {N : List Str} (hN : N.Nodup) {i j : Nat} {x : Str} (a : N[i]? = some x) (b : N[j]? = some x) : i = j := L2.nodup_ix hN a b
theorem RpF.look (hN : N.Nodup) {n : Nat} {x : Str} (hx : N[n]? = some x) : ∀ {fs : List (Nat × D)} {vs : List (Str × V)} {d : D}, RpF K W H N fs vs → fldN fs n = some d → ∃ v, vs.lookup x = some v ∧ Rp K W H d v
  | [], _, _, _, e => by simp [fldN] at e
  | (m, d0) :: fs, vs, d, h, e => by
    simp only [RpF] at h
    obtain ⟨y, v, r, rfl, h1, h2, h3⟩ := h
    unfold fldN at e
    by_cases q : m = n
    · subst q
      rw [if_pos rfl] at e; cases e
      rw [hx] at h1; cases h1
      exact ⟨v, by simp [List.lookup], h2⟩
    · rw [if_neg q] at e
      obtain ⟨u, h4, h5⟩ := RpF.look hN hx h3 e
      have ne : (x == y) = false := beq_eq_false_iff_ne.mpr fun z => q (L2.nodup_ix hN h1 (z ▸ hx))
      exact ⟨u, by simp only [List.lookup, ne]; exact h4, h5⟩
theorem RpF.no {x : Str} (hx : x ∉ N) : ∀ {fs : List (Nat × D)} {vs : List (Str × V)}, RpF K W H N fs vs → vs.lookup x = none
  | [], _, h => by simp only [RpF] at h; subst h; rfl
  | (m, d0) :: fs, vs, h => by
    simp only [RpF] at h
    obtain ⟨y, v, r, rfl, h1, h2, h3⟩ := h
    have ne : (x == y) = false := beq_eq_false_iff_ne.mpr fun z => hx (z ▸ List.mem_of_getElem? h1)
    simp only [List.lookup, ne]
    exact RpF.no hx h3
theorem RpF.put (hN : N.Nodup) {n : Nat} {x : Str} (hx : N[n]? = some x) {d : D} {v : V} (hd : Rp K W H d v) : ∀ {fs : List (Nat × D)} {vs : List (Str × V)}, RpF K W H N fs vs → RpF K W H N (putN n d fs) (putF x v vs)
  | [], _, h => by
    simp only [RpF] at h; subst h
    exact ⟨x, v, [], rfl, hx, hd, rfl⟩
  | (m, d0) :: fs, vs, h => by
    simp only [RpF] at h
    obtain ⟨y, u, r, rfl, h1, h2, h3⟩ := h
    unfold putN putF
    by_cases q : m = n
    · subst q
      rw [hx] at h1; cases h1
      rw [if_pos rfl, if_pos rfl]
      exact ⟨_, v, r, rfl, hx, hd, h3⟩
    · have ne : ¬ y = x := fun z => q (L2.nodup_ix hN h1 (by rw [z]; exact hx))
      rw [if_neg q, if_neg ne]
      exact ⟨y, u, _, rfl, h1, h2, RpF.put hN hx hd h3⟩
theorem RpF.length : ∀ {fs : List (Nat × D)} {vs : List (Str × V)}, RpF K W H N fs vs → vs.length = fs.length
  | [], _, h => by simp only [RpF] at h; subst h; rfl
  | (m, d0) :: fs, vs, h => by
    simp only [RpF] at h
    obtain ⟨y, v, r, rfl, h1, h2, h3⟩ := h
    simp [RpF.length h3]
end
/-- the instance of the class at C -/
def onO (st : Sto) (d : D) (C : Addr) (k : Nat → List (Nat × D) → Prop) : Prop := match d with
  | .hdl j => match st[j]? with | some (.ins C' fs) => C' = C ∧ k j fs | _ => False
  | _ => False
theorem onO_hdl {st : Sto} {j : Nat} {C : Addr} {fs : List (Nat × D)} {k : Nat → List (Nat × D) → Prop} (h : st[j]? = some (.ins C fs)) : onO st (.hdl j) C k = k j fs := by
  show (match st[j]? with | some (.ins C' fs) => C' = C ∧ k j fs | _ => False) = _
  rw [h]; simp
theorem onO_of {G : Gm} {W : Wd} {H : Hp} {st : Sto} {d : D} {v : V} {C : Addr} {k : Nat → List (Nat × D) → Prop} (r : Rel G W H st) (p : Rp G.K W H d v) (h : onO st d C k) :
    ∃ j a dx fs vs, v = .ref a ∧ W.m[j]? = some a ∧ H a = some (.ins C dx vs) ∧ RpF G.K W H (G.Γ C) fs vs ∧ k j fs := by
  unfold onO at h
  split at h
  · split at h
    · rename_i j _ C' fs e
      obtain ⟨rfl, h⟩ := h
      simp only [Rp] at p
      obtain ⟨a, h1, rfl⟩ := p
      obtain ⟨b, h2, dx, vs, h3, h4⟩ := r.cell _ _ e
      rw [h1] at h2; cases h2
      exact ⟨_, a, dx, fs, vs, rfl, h1, h3, h4, h⟩
    · cases h
  · cases h
/-- what is known of a class of the text -/
structure ClsD (G : Gm) (C : Addr) (N : List Str) : Prop where
  cl : Cls G.K C
  Γ : G.Γ C = N
  nd : N.Nodup
  no : ∀ f ∈ N, NoAttr G.K C f
section
variable {G : Gm} {E : XK} {X : Cx}
@[simp] def mFld (C : Addr) (n : Nat) (we : ME) : ME := fun ρ st R xq => we ρ st (fun x st1 => onO st1 x C fun _ fs => ∃ d, fldN fs n = some d ∧ R d st1) xq
theorem pd_fld {C : Addr} {N : List Str} {e : Expr} {we : ME} {f : Str} {pos : Pos} (T : ClsD G C N) (n : Nat) (he : PDE G E X e we) (hf : N[n]? = some f := by rfl) (hb : attributeBase e f X.env (eval e X.env) = eval e X.env := by rfl) (hK : G.K = X.K := by rfl) : PDE G E X (.Attribute e f pos) (mFld C n we) :=
  PE.weak (pe_fld he hb) fun σ H Q ⟨W, ρ, st, R, xq, rel, re, w, o⟩ =>
    ⟨W, ρ, st, _, xq, rel, re, w, ⟨fun W1 H1 dx x st1 l1 rel1 rx w1 => by
      obtain ⟨j, a, dd, fs, vs, rfl, h1, h2, h3, d, e1, w1⟩ := onO_of rel1 rx w1
      rw [T.Γ] at h3
      obtain ⟨v, h4, h5⟩ := h3.look T.nd hf e1
      rw [← hK]
      exact ⟨a, C, dd, vs, v, rfl, h2, T.cl, T.no f (List.mem_of_getElem? hf), h4, o.rt W1 H1 d v st1 l1 rel1 h5 w1⟩, o.xq⟩⟩
@[simp] def sSetFld (C : Addr) (n : Nat) (we wv : ME) : MS := fun e ρ st => wv ρ st (fun y st1 => we ρ st1 (fun x st2 => onO st2 x C fun j fs => fs.length < 1000 ∧ e.nx ρ (st2.set j (.ins C (putN n y fs)))) e.xq) e.xq
theorem wrO {W : Wd} {H : Hp} {st : Sto} {j : Nat} {a C dx : Addr} {fs : List (Nat × D)} {vs : List (Str × V)} (r : Rel G W H st) (e : W.m[j]? = some a) (h : RpF G.K W H (G.Γ C) fs vs) : Rel G W (upd H a (.ins C dx vs)) (st.set j (.ins C fs)) :=
  r.write e ⟨dx, vs, upd_same, h.le (Le.write (r.mem e))⟩
theorem sd_fld {C : Addr} {N : List Str} {o v : Expr} {we wv : ME} {f : Str} {pos pos' : Pos} (T : ClsD G C N) (n : Nat) (ho : PDE G E X o we) (hv : PDE G E X v wv) (hf : N[n]? = some f := by rfl) (hs : swapsWith v (some (.Attribute o f pos')) pos.line X.env = pure false := by rfl) (hK : G.K = X.K := by rfl) : PDS G E X (.Assign [.Attribute o f pos'] v pos) (sSetFld C n we wv) :=
  PS.weak (ps_fld ho hv hs) fun Dn σ H ⟨W, ρ, st, e, rel, re, w, o⟩ =>
    ⟨W, ρ, st, _, e.xq, rel, re, w, ⟨fun W1 H1 dy y st1 l1 rel1 ry w1 =>
      ⟨W1, ρ, st1, _, e.xq, rel1, re.le l1, w1, ⟨fun W2 H2 dx x st2 l2 rel2 rx w2 => by
        obtain ⟨j, a, dd, fs, vs, rfl, h1, h2, h3, hl, w2⟩ := onO_of rel2 rx w2
        have h3' := h3
        rw [T.Γ] at h3'
        rw [← hK]
        refine ⟨a, C, dd, vs, rfl, h2, T.cl, T.no f (List.mem_of_getElem? hf), by rw [h3.length]; exact hl, ?_⟩
        have l3 := Le.write (H := H2) (o := HO.ins C dd (putF f y vs)) (rel2.mem h1)
        refine o.nx W2 _ ρ σ _ (l1.trans (l2.trans l3)) (wrO rel2 h1 ?_) (re.le (l1.trans (l2.trans l3))) w2
        rw [T.Γ]
        exact h3'.put T.nd hf (ry.le l2), (o.le l1).xq⟩⟩, o.xq⟩⟩
/-- o.f += e, numbers -/
@[simp] def sAugFld (C : Addr) (n : Nat) (g : Int → Int → Int) (we wv : ME) : MS := fun e ρ st => we ρ st (fun x st1 => onO st1 x C fun _ fs => ∃ d, fldN fs n = some d ∧ wv ρ st1 (fun y st2 => onI d fun i => onI y fun j => onO st2 x C fun k fs' => fs'.length < 1000 ∧ e.nx ρ (st2.set k (.ins C (putN n (.int (g i j)) fs')))) e.xq) e.xq
def rII (g : Int → Int → Int) : V → V → Hp → VK → Prop := fun x y H Q => ∃ i j, x = .int i ∧ y = .int j ∧ Q (.int (g i j)) H
theorem sd_augFld {C : Addr} {N : List Str} {o v : Expr} {we wv : ME} {f : Str} {op : Operator} {g : Int → Int → Int} {pos tpos : Pos} (T : ClsD G C N) (n : Nat) (hop : InOp X op (rII g)) (ho : PDE G E X o we) (hv : PDE G E X v wv) (hf : N[n]? = some f := by rfl) (hK : G.K = X.K := by rfl) : PDS G E X (.AugAssign (.Attribute o f tpos) op v pos) (sAugFld C n g we wv) :=
  PS.weak (ps_fldaug ho hv hop) fun Dn σ H ⟨W, ρ, st, e, rel, re, w, o⟩ =>
    ⟨W, ρ, st, _, e.xq, rel, re, w, ⟨fun W1 H1 dx x st1 l1 rel1 rx w1 => by
      obtain ⟨j, a, dd, fs, vs, rfl, h1, h2, h3, d, e1, w1⟩ := onO_of rel1 rx w1
      rw [T.Γ] at h3
      obtain ⟨v, h4, h5⟩ := h3.look T.nd hf e1
      rw [← hK]
      refine ⟨a, C, dd, vs, v, rfl, h2, T.cl, T.no f (List.mem_of_getElem? hf), h4, W1, ρ, st1, _, e.xq, rel1, re.le l1, w1, ⟨fun W2 H2 dy y st2 l2 rel2 ry w2 => ?_, (o.le l1).xq⟩⟩
      obtain ⟨i, rfl, w2⟩ := onI_of (h5.le l2) w2
      obtain ⟨k, rfl, w2⟩ := onI_of ry w2
      obtain ⟨j', a', dd', fs', vs', e0, h6, h7, h8, hl, w2⟩ := onO_of rel2 (rx.le l2) w2
      cases e0
      refine ⟨i, k, rfl, rfl, dd', vs', h7, by rw [h8.length]; exact hl, ?_⟩
      have l3 := Le.write (H := H2) (o := HO.ins C dd' (putF f (.int (g i k)) vs')) (rel2.mem h6)
      have h8' := h8
      rw [T.Γ] at h8'
      refine o.nx W2 _ ρ σ _ (l1.trans (l2.trans l3)) (wrO rel2 h6 ?_) (re.le (l1.trans (l2.trans l3))) w2
      rw [T.Γ]
      exact h8'.put T.nd hf (d := D.int (g i k)) (v := V.int (g i k)) (by simp only [Rp]), o.xq⟩⟩

/-! ## calls of the text's own defs -/
abbrev DSp := List D → Sto → DQ → XQ → Prop
def spD (G : Gm) (dsp : DSp) : Sp := fun vs H Q E => ∃ W ds st R xq, Rel G W H st ∧ RpL G.K W H ds vs ∧ dsp ds st R xq ∧ OutE G E W H R xq Q
def FnD (P : Program) (w : World) (G : Gm) (mg : Str → Option Value) (base : Heap) (CX : CXT) (k : Nat) (f : Addr) (fd : FuncData) (ps : List Str) (dsp : DSp) : Prop := FnOk P w G.K mg base CX k f fd ps (spD G dsp)
@[simp] def mCall (dsp : DSp) (w : MA) : ME := fun ρ st R xq => w ρ st (fun ds st1 => dsp ds st1 R xq) xq
theorem passA {X : Cx} {E : XK} : Passes CX0 X E := fun _ _ _ _ _ _ _ h => h.elim
theorem pd_call {CX : CXT} {k : Nat} {f : Addr} {fd : FuncData} {ps : List Str} {dsp : DSp} {x : Str} {p pos : Pos} {e : Expr} {es : List Expr} {w : MA} (F : FnD X.prog X.w G X.mg X.base CX k f fd ps dsp) (hm : X.mg x = some (.ref f)) (hk : PySem.W.keepIn G.K (.ref f) = true) (hb : Binds G.K fd ps []) (hx : Passes CX X E) (hr : Room k X.A)
    (ha : PDA G E X (e :: es) w) (hg : Gl X x := by rfl) (hdb : (x == ("__debug__" : Str)) = false := by decide) (he : starEach (e :: es) X.env = (false, eval e X.env) :: starEach es X.env := by rfl) (hpl : (backTo pos (starEach es X.env)).any (·.1) = false := by rfl) (hK : G.K = X.K := by rfl) :
    PDE G E X (.Call (.Name x p) (e :: es) [] pos) (mCall dsp w) := by
  unfold FnD at F
  rw [hK] at F hk hb
  exact PE.weak (pe_call F hr hg hm hk hb .nil hx ha hdb he hpl) fun σ H Q ⟨W, ρ, st, R, xq, rel, re, w, o⟩ =>
    ⟨W, ρ, st, _, xq, rel, re, w, ⟨fun W1 H1 ds vs st1 l1 rel1 rv w1 => ⟨W1, ds, st1, R, xq, rel1, by rw [List.append_nil]; exact rv, w1, o.le l1⟩, o.xq⟩⟩
theorem pd_call0 {CX : CXT} {k : Nat} {f : Addr} {fd : FuncData} {ps : List Str} {dsp : DSp} {x : Str} {p pos : Pos} (F : FnD X.prog X.w G X.mg X.base CX k f fd ps dsp) (hm : X.mg x = some (.ref f)) (hk : PySem.W.keepIn G.K (.ref f) = true) (hb : Binds G.K fd ps []) (hx : Passes CX X E) (hr : Room k X.A)
    (hg : Gl X x := by rfl) (hdb : (x == ("__debug__" : Str)) = false := by decide) (hK : G.K = X.K := by rfl) :
    PDE G E X (.Call (.Name x p) [] [] pos) (mCall dsp maNil) := by
  unfold FnD at F
  rw [hK] at F hk hb
  exact PE.weak (pe_call0 F hr hg hm hk hb .nil hx hdb) fun σ H Q ⟨W, ρ, st, R, xq, rel, re, w, o⟩ => ⟨W, [], st, R, xq, rel, RpL.nil, w, o⟩
@[simp] def mMeth (C : Addr) (dsp : DSp) (we : ME) (wa : MA) : ME := fun ρ st R xq => we ρ st (fun x st1 => (onO st1 x C fun _ _ => True) ∧ wa ρ st1 (fun ds st2 => dsp (x :: ds) st2 R xq) xq) xq
theorem pd_meth {CX : CXT} {k : Nat} {f C : Addr} {N : List Str} {fd : FuncData} {ps : List Str} {dsp : DSp} {m : Str} {o e : Expr} {es : List Expr} {we : ME} {wa : MA} {pos apos : Pos} {pl : Sem Bool} (T : ClsD G C N) (hn : m ∉ N) (hm : Meth G.K C m f) (F : FnD X.prog X.w G X.mg X.base CX k f fd ps dsp) (hb : Binds G.K fd ps []) (hx : Passes CX X E) (hr : Room k X.A)
    (ho : PDE G E X o we) (ha : PDA G E X (e :: es) wa)
    (hst : starEach (e :: es) X.env = (false, eval e X.env) :: starEach es X.env := by rfl) (hpl : (backTo pos (starEach es X.env)).any (·.1) = false := by rfl)
    (ht : eval (.Call (.Attribute o m apos) (e :: es) [] pos) X.env = (do
      let ov ← eval o X.env
      standAt apos.atName
      let (f, first) ← holding [ov] (getMethod ov m pl)
      callWith pos f first (backTo pos (starEach (e :: es) X.env)) (backToKw pos (keywordEach [] X.env))) := by rfl) (hK : G.K = X.K := by rfl) :
    PDE G E X (.Call (.Attribute o m apos) (e :: es) [] pos) (mMeth C dsp we wa) := by
  unfold FnD at F
  have hc := T.cl
  rw [hK] at F hm hb hc
  exact PE.weak (pe_meth (pl := pl) ho hc hm F hr hb .nil hx ha hst hpl ht) fun σ H Q ⟨W, ρ, st, R, xq, rel, re, w, o⟩ =>
    ⟨W, ρ, st, _, xq, rel, re, w, ⟨fun W1 H1 dx x st1 l1 rel1 rx w1 => by
      obtain ⟨j, a, dd, fs, vs, rfl, h1, h2, h3, _⟩ := onO_of rel1 rx w1.1
      rw [T.Γ] at h3
      exact ⟨a, dd, vs, rfl, h2, h3.no hn, W1, ρ, st1, _, xq, rel1, re.le l1, w1.2, ⟨fun W2 H2 ds us st2 l2 rel2 rus w2 =>
        ⟨W2, dx :: ds, st2, R, xq, rel2, by rw [List.append_nil]; exact RpL.cons (rx.le l2) rus, w2, o.le (l1.trans l2)⟩, (o.le l1).xq⟩⟩, o.xq⟩⟩
@[simp] def mMeth0 (C : Addr) (dsp : DSp) (we : ME) : ME := fun ρ st R xq => we ρ st (fun x st1 => (onO st1 x C fun _ _ => True) ∧ dsp [x] st1 R xq) xq
theorem pd_meth0 {CX : CXT} {k : Nat} {f C : Addr} {N : List Str} {fd : FuncData} {ps : List Str} {dsp : DSp} {m : Str} {o : Expr} {we : ME} {pos apos : Pos} {pl : Sem Bool} (T : ClsD G C N) (hn : m ∉ N) (hm : Meth G.K C m f) (F : FnD X.prog X.w G X.mg X.base CX k f fd ps dsp) (hb : Binds G.K fd ps []) (hx : Passes CX X E) (hr : Room k X.A)
    (ho : PDE G E X o we)
    (ht : eval (.Call (.Attribute o m apos) [] [] pos) X.env = (do
      let ov ← eval o X.env
      standAt apos.atName
      let (f, first) ← holding [ov] (getMethod ov m pl)
      callWith pos f first (backTo pos (starEach [] X.env)) (backToKw pos (keywordEach [] X.env))) := by rfl) (hK : G.K = X.K := by rfl) :
    PDE G E X (.Call (.Attribute o m apos) [] [] pos) (mMeth0 C dsp we) := by
  unfold FnD at F
  have hc := T.cl
  rw [hK] at F hm hb hc
  exact PE.weak (pe_meth0 (pl := pl) ho hc hm F hr hb .nil hx ht) fun σ H Q ⟨W, ρ, st, R, xq, rel, re, w, o⟩ =>
    ⟨W, ρ, st, _, xq, rel, re, w, ⟨fun W1 H1 dx x st1 l1 rel1 rx w1 => by
      obtain ⟨j, a, dd, fs, vs, rfl, h1, h2, h3, _⟩ := onO_of rel1 rx w1.1
      rw [T.Γ] at h3
      exact ⟨a, dd, vs, rfl, h2, h3.no hn, W1, [dx], st1, R, xq, rel1, RpL.one rx, w1.2, o.le l1⟩, o.xq⟩⟩
/-- C(..) -/
@[simp] def mMake (C : Addr) (dsp : DSp) (w : MA) : ME := fun ρ st R xq => w ρ st (fun ds st1 => dsp (.hdl st1.length :: ds) (st1 ++ [.ins C []]) (fun d st2 => d = .non ∧ R (.hdl st1.length) st2) xq) xq
theorem make_new {W : Wd} {H : Hp} {st : Sto} {x dx C : Addr} (r : Rel G W H st) (h1 : H x = none) (h2 : H dx = none) (h3 : dx ≠ x) :
    Le W H ⟨W.m ++ [x], W.ex⟩ (upd (upd H dx (.own x)) x (.ins C dx [])) ∧ Rel G ⟨W.m ++ [x], W.ex⟩ (upd (upd H dx (.own x)) x (.ins C dx [])) (st ++ [.ins C []]) ∧ Rp G.K ⟨W.m ++ [x], W.ex⟩ (upd (upd H dx (.own x)) x (.ins C dx [])) (.hdl st.length) (.ref x) := by
  have r2 := r.fresh (o := HO.own x) h2
  have hx : (upd H dx (.own x)) x = none := by rw [upd_ne (Ne.symm h3)]; exact h1
  refine ⟨(Le.fresh h2).trans (Le.new hx), r2.new hx ⟨dx, [], upd_same, rfl⟩, ?_⟩
  simp only [Rp]
  refine ⟨x, ?_, rfl⟩
  rw [← r.len]; simp
theorem pd_make {CX : CXT} {k : Nat} {f C : Addr} {fd : FuncData} {ps : List Str} {dsp : DSp} {x : Str} {p pos : Pos} {e : Expr} {es : List Expr} {w : MA} (M : Mk G.K C f) (F : FnD X.prog X.w G X.mg X.base CX k f fd ps dsp) (hm : X.mg x = some (.ref C)) (hb : Binds G.K fd ps []) (hx : Passes CX X E) (hr : Room (k + 1) X.A)
    (ha : PDA G E X (e :: es) w) (hg : Gl X x := by rfl) (hdb : (x == ("__debug__" : Str)) = false := by decide) (he : starEach (e :: es) X.env = (false, eval e X.env) :: starEach es X.env := by rfl) (hpl : (backTo pos (starEach es X.env)).any (·.1) = false := by rfl) (hK : G.K = X.K := by rfl) :
    PDE G E X (.Call (.Name x p) (e :: es) [] pos) (mMake C dsp w) := by
  unfold FnD at F
  rw [hK] at F hb M
  exact PE.weak (pe_make M F hr hg hm hb .nil hx ha hdb he hpl) fun σ H Q ⟨W, ρ, st, R, xq, rel, re, w, o⟩ =>
    ⟨W, ρ, st, _, xq, rel, re, w, ⟨fun W1 H1 ds vs st1 l1 rel1 rv w1 y dy n1 n2 n3 => by
      obtain ⟨l2, rel2, rh⟩ := make_new (C := C) rel1 n1 n2 n3
      refine ⟨_, _, _, _, xq, rel2, by rw [List.append_nil]; exact RpL.cons rh (rv.le l2), w1, ⟨fun W3 H3 d v st3 l3 rel3 rv3 w3 => ?_, (o.le (l1.trans l2)).xq⟩⟩
      obtain ⟨rfl, w3⟩ := w3
      exact ⟨rv3, o.rt W3 H3 (.hdl st1.length) (.ref y) st3 (l1.trans (l2.trans l3)) rel3 (rh.le l3) w3⟩, o.xq⟩⟩
theorem pd_make0 {CX : CXT} {k : Nat} {f C : Addr} {fd : FuncData} {ps : List Str} {dsp : DSp} {x : Str} {p pos : Pos} (M : Mk G.K C f) (F : FnD X.prog X.w G X.mg X.base CX k f fd ps dsp) (hm : X.mg x = some (.ref C)) (hb : Binds G.K fd ps []) (hx : Passes CX X E) (hr : Room (k + 1) X.A)
    (hg : Gl X x := by rfl) (hdb : (x == ("__debug__" : Str)) = false := by decide) (hK : G.K = X.K := by rfl) :
    PDE G E X (.Call (.Name x p) [] [] pos) (mMake C dsp maNil) := by
  unfold FnD at F
  rw [hK] at F hb M
  exact PE.weak (pe_make0 M F hr hg hm hb .nil hx hdb) fun σ H Q ⟨W, ρ, st, R, xq, rel, re, w, o⟩ => fun y dy n1 n2 n3 => by
      obtain ⟨l2, rel2, rh⟩ := make_new (C := C) rel n1 n2 n3
      refine ⟨_, _, _, _, xq, rel2, RpL.one rh, w, ⟨fun W3 H3 d v st3 l3 rel3 rv3 w3 => ?_, (o.le l2).xq⟩⟩
      obtain ⟨rfl, w3⟩ := w3
      exact ⟨rv3, o.rt W3 H3 (.hdl st.length) (.ref y) st3 (l2.trans l3) rel3 (rh.le l3) w3⟩
end
end DL

set_option Elab.async false
set_option linter.all false
set_option maxRecDepth 100000
set_option autoImplicit false
namespace DL
open PySem PySem.Spec PyProof.Rows L2

section
variable {G : Gm} {E : XK} {X : Cx}
/-! ## targets -/
abbrev MG := D → DEnv → Sto → (DEnv → Sto → Prop) → XQ → Prop
abbrev MGs := List D → DEnv → Sto → (DEnv → Sto → Prop) → XQ → Prop
structure OutG (G : Gm) (E : XK) (W : Wd) (H : Hp) (k : DEnv → Sto → Prop) (xq : XQ) (Q : L2.St → Hp → Prop) : Prop where
  rt : ∀ W' H' ρ' σ' st', Le W H W' H' → Rel G W' H' st' → RpE G.K W' H' ρ' σ' → k ρ' st' → Q σ' H'
  xq : ∀ W' H' C st', Le W H W' H' → Rel G W' H' st' → xq C st' → E (.ref C) none H'
theorem OutG.le {W W' : Wd} {H H' : Hp} {k : DEnv → Sto → Prop} {xq : XQ} {Q : L2.St → Hp → Prop} (o : OutG G E W H k xq Q) (l : Le W H W' H') : OutG G E W' H' k xq Q :=
  ⟨fun _ _ _ _ _ q => o.rt _ _ _ _ _ (l.trans q), fun _ _ _ _ q => o.xq _ _ _ _ (l.trans q)⟩
def tDG (G : Gm) (E : XK) (g : MG) : TG := fun v σ H Q => ∃ W d ρ st k xq, Rel G W H st ∧ RpE G.K W H ρ σ ∧ Rp G.K W H d v ∧ g d ρ st k xq ∧ OutG G E W H k xq Q
def tDGs (G : Gm) (E : XK) (g : MGs) : TGs := fun vs σ H Q => ∃ W ds ρ st k xq, Rel G W H st ∧ RpE G.K W H ρ σ ∧ RpL G.K W H ds vs ∧ g ds ρ st k xq ∧ OutG G E W H k xq Q
def PDG (G : Gm) (E : XK) (X : Cx) (tg : Expr) (g : MG) : Prop := PG X tg (tDG G E g)
def PDGs (G : Gm) (E : XK) (X : Cx) (tgs : List Expr) (g : MGs) : Prop := PGs X tgs (tDGs G E g)
theorem PG.weak {X : Cx} {e : Expr} {t t' : TG} (h : PG X e t) (hw : ∀ v σ H Q, t' v σ H Q → t v σ H Q) : PG X e t' := ⟨fun pins s σ H v u Q I r q => h.run pins s σ H v u Q I r (hw _ _ _ _ q)⟩
theorem PGs.weak {X : Cx} {e : List Expr} {t t' : TGs} (h : PGs X e t) (hw : ∀ v σ H Q, t' v σ H Q → t v σ H Q) : PGs X e t' := ⟨fun pins s σ H v u Q I r q => h.run pins s σ H v u Q I r (hw _ _ _ _ q)⟩
@[simp] def gNm (i : Nat) : MG := fun d ρ st k _ => k (ρ.set i (some d)) st
theorem gd_nm (i : Nat) {x : Str} {pos : Pos} (hN : X.N.Nodup) (hi : X.N[i]? = some x := by rfl) (hx : Loc X.env.scope x := by first | exact Or.inl rfl | exact Or.inr rfl) (hf : X.fn x = true ∨ X.env.scope.names.lookup x = some .local := by first | exact .inl rfl | exact .inr rfl) : PDG G E X (.Name x pos) (gNm i) :=
  PG.weak (pg_name hN hi hx hf) fun v σ H Q ⟨W, d, ρ, st, k, xq, rel, re, rv, w, o⟩ => o.rt W H _ _ st Le.refl rel (re.set rv i) w
@[simp] def gsNil : MGs := fun ds ρ st k _ => ds = [] ∧ k ρ st
@[simp] def gsCons (g : MG) (r : MGs) : MGs := fun ds ρ st k xq => match ds with | d :: ds => g d ρ st (fun ρ1 st1 => r ds ρ1 st1 k xq) xq | [] => False
theorem gds_nil : PDGs G E X [] gsNil := PGs.weak pgs_nil fun v σ H Q ⟨W, d, ρ, st, k, xq, rel, re, rv, w, o⟩ => by
  obtain ⟨rfl, w⟩ := w
  simp only [RpL] at rv
  exact ⟨rv, o.rt W H _ _ st Le.refl rel re w⟩
theorem gds_cons {e : Expr} {es : List Expr} {g : MG} {r : MGs} (h1 : PDG G E X e g) (h2 : PDGs G E X es r) (hs : (assignEach (e :: es) X.env).map (·.2) = assign e X.env :: (assignEach es X.env).map (·.2) := by rfl) : PDGs G E X (e :: es) (gsCons g r) :=
  PGs.weak (pgs_cons h1 h2 hs) fun v σ H Q ⟨W, ds, ρ, st, k, xq, rel, re, rv, w, o⟩ => by
    unfold gsCons at w
    split at w
    · simp only [RpL] at rv
      obtain ⟨v1, r1, rfl, q1, q2⟩ := rv
      exact ⟨v1, r1, rfl, W, _, ρ, st, _, xq, rel, re, q1, w, ⟨fun W1 H1 ρ1 σ1 st1 l1 rel1 re1 w1 => ⟨W1, _, ρ1, st1, k, xq, rel1, re1, q2.le l1, w1, o.le l1⟩, o.xq⟩⟩
    · cases w
@[simp] def gTp (n : Nat) (r : MGs) : MG := fun d ρ st k xq => match d with | .tup ds => ds.length = n ∧ r ds ρ st k xq | _ => False
theorem gd_tp {es : List Expr} {j : Nat} {r : MGs} {n : Nat} {pos : Pos} (h : PDGs G E X es r) (hc : X.calm = true := by rfl) (hn : (assignEach es X.env).length = n := by rfl) (hst : (assignEach es X.env).findIdx? (·.1) = none := by rfl) (hK : G.K = X.K := by rfl) : PDG G E X (.Tuple es j pos) (gTp n r) :=
  PG.weak (pg_tup hc h hn hst) fun v σ H Q ⟨W, d, ρ, st, k, xq, rel, re, rv, w, o⟩ => by
    unfold gTp at w
    split at w
    · obtain ⟨a, vs, rfl, h1, h2⟩ := tup_sq rv
      rw [← hK]
      exact ⟨a, vs, rfl, h1, by rw [h2.length]; exact w.1, W, _, ρ, st, k, xq, rel, re, h2, w.2, o⟩
    · cases w
/-! o[i] = v -/
abbrev D3 := D → D → D → Sto → (Sto → Prop) → Prop
def rSetK : TSet := fun o i v H Q => ∃ a H', o = .ref a ∧ DPut H a i v H' ∧ Q H'
def rSET : TSet := fun o i v H Q => rSetL o i v H Q ∨ rSetK o i v H Q
theorem set_dict (hu : X.A.units + 1 < cLine) : PSet X rSetK := by
  intro pins s σ H o i v ov iv u Q I ro ri rv ⟨a, H', e, p, q⟩
  subst e
  cases (show ov = Value.ref a from ro)
  exact d_setItem hu I p ri rv fun s' I' => ⟨H', I', q⟩
theorem set_ALL (hu : X.A.units + 1 < cLine) : PSet X rSET := by
  intro pins s σ H o i v ov iv u Q I ro ri rv h
  rcases h with h | h
  · exact set_list pins s σ H o i v ov iv u Q I ro ri rv h
  · exact set_dict hu pins s σ H o i v ov iv u Q I ro ri rv h
def dSet : D3 := fun o i v st k => match o with
  | .hdl j => match st[j]? with
    | some (.lst xs) => onI i fun n => ∃ m, ixN xs.length n = some m ∧ k (st.set j (.lst (xs.set m v)))
    | some (.dK kvs) => kvs.length < sizeLine ∧ ∃ key, toK i = some key ∧ k (st.set j (.dK (putD kvs key v)))
    | _ => False
  | _ => False
theorem dSet_sd {W : Wd} {H : Hp} {st : Sto} {o i v : D} {ov iv u : V} {k : Sto → Prop} {Q : Hp → Prop} (rel : Rel G W H st) (ro : Rp G.K W H o ov) (ri : Rp G.K W H i iv) (rv : Rp G.K W H v u) (w : dSet o i v st k)
    (hQ : ∀ H' st', Le W H W H' → Rel G W H' st' → k st' → Q H') : rSET ov iv u H Q := by
  unfold dSet at w
  split at w
  · rename_i j
    simp only [Rp] at ro
    obtain ⟨a, h1, rfl⟩ := ro
    split at w
    · rename_i xs e
      obtain ⟨b, h2, vs, h3, h4⟩ := rel.cell _ _ e
      rw [h1] at h2; cases h2
      obtain ⟨n, rfl, m, e2, w⟩ := onI_of ri w
      exact .inl ⟨a, vs, n, m, rfl, rfl, h3, by rw [h4.length]; exact e2, hQ _ _ (Le.write (rel.mem h1)) (wrL rel h1 (h4.set rv m)) w⟩
    · rename_i kvs e
      obtain ⟨b, h2, vs, h3, h4⟩ := rel.cell _ _ e
      rw [h1] at h2; cases h2
      obtain ⟨hl, key, e2, w⟩ := w
      obtain rfl := toK_of ri e2
      exact .inr ⟨a, _, rfl, DPut.k h3 (by rw [h4.length]; exact hl), hQ _ _ (Le.write (rel.mem h1)) (wrK rel h1 (h4.put rv)) w⟩
    · cases w
  · cases w
@[simp] def gSb (wo wi : ME) : MG := fun d ρ st k xq => wo ρ st (fun o st1 => wi ρ st1 (fun i st2 => dSet o i d st2 (k ρ)) xq) xq
theorem gd_sb {o i : Expr} {wo wi : ME} {pos : Pos} (hu : X.A.units + 1 < cLine) (ho : PDE G E X o wo) (hi : PDE G E X i wi)
    (ha : ∀ v, assign (.Subscript o i pos) X.env v = (do
      let ov ← holding [v] (eval o X.env)
      let iv ← holding [v, ov] (eval i X.env)
      standAt pos
      holding [v, ov, iv] (setItem ov iv v)
      release [v, ov, iv] []) := by intro _; rfl) : PDG G E X (.Subscript o i pos) (gSb wo wi) :=
  PG.weak (pg_sub ho hi (set_ALL hu) ha) fun v σ H Q ⟨W, d, ρ, st, k, xq, rel, re, rv, w, o⟩ =>
    ⟨W, ρ, st, _, xq, rel, re, w, ⟨fun W1 H1 dx x st1 l1 rel1 rx w1 => ⟨W1, ρ, st1, _, xq, rel1, re.le l1, w1, ⟨fun W2 H2 di y st2 l2 rel2 ry w2 =>
      dSet_sd rel2 (rx.le l2) ry (rv.le (l1.trans l2)) w2 fun H' st' l3 rel3 w3 => o.rt W2 H' ρ σ st' (l1.trans (l2.trans l3)) rel3 (re.le (l1.trans (l2.trans l3))) w3, (o.le l1).xq⟩⟩, o.xq⟩⟩

/-! ## statements -/
@[simp] def sNx : MS := fun e ρ st => e.nx ρ st
@[simp] def sSeq (a b : MS) : MS := fun e ρ st => a { e with nx := fun ρ1 st1 => b e ρ1 st1 } ρ st
theorem sds_nil : PDSs G E X [] sNx := PSs.weak pss_nil fun Dn σ H ⟨W, ρ, st, e, rel, re, w, o⟩ => o.nx W H ρ σ st Le.refl rel re w
theorem sds_one {s : Stmt} {a : MS} (h : PDS G E X s a) : PDSs G E X [s] a := pss_one h
theorem sds_cons {s : Stmt} {r : List Stmt} {a b : MS} (h1 : PDS G E X s a) (h2 : PDSs G E X r b) : PDSs G E X (s :: r) (sSeq a b) :=
  PSs.weak (pss_cons h1 h2) fun Dn σ H ⟨W, ρ, st, e, rel, re, w, o⟩ =>
    ⟨W, ρ, st, _, rel, re, w, ⟨fun W1 H1 ρ1 σ1 st1 l1 rel1 re1 w1 => ⟨W1, ρ1, st1, e, rel1, re1, w1, o.le l1⟩, o.bk, o.ct, o.rt, o.xq⟩⟩
@[simp] def sBk : MS := fun e ρ st => e.bk ρ st
@[simp] def sCt : MS := fun e ρ st => e.ct ρ st
theorem sd_pass {pos : Pos} : PDS G E X (.Pass pos) sNx := PS.weak ps_pass fun Dn σ H ⟨W, ρ, st, e, rel, re, w, o⟩ => o.nx W H ρ σ st Le.refl rel re w
theorem sd_break {pos : Pos} : PDS G E X (.Break pos) sBk := PS.weak ps_break fun Dn σ H ⟨W, ρ, st, e, rel, re, w, o⟩ => o.bk W H ρ σ st Le.refl rel re w
theorem sd_continue {pos : Pos} : PDS G E X (.Continue pos) sCt := PS.weak ps_continue fun Dn σ H ⟨W, ρ, st, e, rel, re, w, o⟩ => o.ct W H ρ σ st Le.refl rel re w
@[simp] def sEx (w : ME) : MS := fun e ρ st => w ρ st (fun _ st1 => e.nx ρ st1) e.xq
theorem sd_expr {v : Expr} {w : ME} {pos : Pos} (h : PDE G E X v w) (hs : swapsWith v none pos.line X.env = pure false := by rfl) : PDS G E X (.Expr v pos) (sEx w) :=
  PS.weak (ps_expr h hs) fun Dn σ H ⟨W, ρ, st, e, rel, re, w, o⟩ =>
    ⟨W, ρ, st, _, e.xq, rel, re, w, ⟨fun W1 H1 d v st1 l1 rel1 rv w1 => o.nx W1 H1 ρ σ st1 l1 rel1 (re.le l1) w1, o.xq⟩⟩
@[simp] def sRt (w : ME) : MS := fun e ρ st => w ρ st e.rt e.xq
theorem sd_ret {v : Expr} {w : ME} {pos : Pos} (h : PDE G E X v w) : PDS G E X (.Return (some v) pos) (sRt w) :=
  PS.weak (ps_ret h) fun Dn σ H ⟨W, ρ, st, e, rel, re, w, o⟩ => ⟨W, ρ, st, e.rt, e.xq, rel, re, w, ⟨o.rt, o.xq⟩⟩
@[simp] def sRtN : MS := fun e _ st => e.rt .non st
theorem sd_retN {pos : Pos} : PDS G E X (.Return none pos) sRtN := PS.weak ps_retN fun Dn σ H ⟨W, ρ, st, e, rel, re, w, o⟩ => o.rt W H .non .non st Le.refl rel rfl w
@[simp] def sIf (t : MT) (a b : MS) : MS := fun e ρ st => t ρ st (fun c st1 => if c = true then a e ρ st1 else b e ρ st1) e.xq
theorem sd_if {c : Expr} {a b : List Stmt} {t : MT} {wa wb : MS} {pos : Pos} (hc : PDT G E X c t) (ha : PDSs G E X a wa) (hb : PDSs G E X b wb) : PDS G E X (.If c a b pos) (sIf t wa wb) :=
  PS.weak (ps_if hc ha hb) fun Dn σ H ⟨W, ρ, st, e, rel, re, w, o⟩ =>
    ⟨W, ρ, st, _, e.xq, rel, re, w, ⟨fun W1 H1 c st1 l1 rel1 w1 => by
      cases c with
      | true => exact ⟨W1, ρ, st1, e, rel1, re.le l1, w1, o.le l1⟩
      | false => exact ⟨W1, ρ, st1, e, rel1, re.le l1, w1, o.le l1⟩, o.xq⟩⟩
@[simp] def sAs (w : ME) (g : MG) : MS := fun e ρ st => w ρ st (fun d st1 => g d ρ st1 e.nx e.xq) e.xq
theorem as_out {W : Wd} {H : Hp} {ρ : DEnv} {σ : L2.St} {st : Sto} {e : DEnds} {Dn : Ends} {g : MG} (rel : Rel G W H st) (re : RpE G.K W H ρ σ) (o : OutS G E W H e Dn) :
    OutE G E W H (fun d st1 => g d ρ st1 e.nx e.xq) e.xq (fun x H1 => tDG G E g x σ H1 Dn.nx) :=
  ⟨fun W1 H1 d v st1 l1 rel1 rv w1 => ⟨W1, d, ρ, st1, e.nx, e.xq, rel1, re.le l1, rv, w1, ⟨(o.le l1).nx, (o.le l1).xq⟩⟩, o.xq⟩
theorem sd_asg {tg v : Expr} {w : ME} {g : MG} {pos : Pos} (hv : PDE G E X v w) (hg : PDG G E X tg g) (hs : swapsWithSole [tg] v pos.line X.env = pure false := by rfl) (hw : swappedStores [tg] v X.env = pure none := by rfl)
    (h1 : (assignEach [tg] X.env).map (·.2) = [assign tg X.env] := by rfl) : PDS G E X (.Assign [tg] v pos) (sAs w g) :=
  PS.weak (ps_asg hv hg hs hw h1) fun Dn σ H ⟨W, ρ, st, e, rel, re, w, o⟩ => ⟨W, ρ, st, _, e.xq, rel, re, w, as_out rel re o⟩
theorem sd_set (i : Nat) {x : Str} {v : Expr} {w : ME} {pos pos' : Pos} (hv : PDE G E X v w) (hN : X.N.Nodup) (hi : X.N[i]? = some x := by rfl) (hx : Loc X.env.scope x := by first | exact Or.inl rfl | exact Or.inr rfl) (hs : swapsWith v (some (.Name x pos')) pos.line X.env = pure false := by rfl) (hf : X.fn x = true ∨ X.env.scope.names.lookup x = some .local := by first | exact .inl rfl | exact .inr rfl) :
    PDS G E X (.Assign [.Name x pos'] v pos) (sAs w (gNm i)) :=
  PS.weak (ps_set hN hi hx hv hs hf) fun Dn σ H ⟨W, ρ, st, e, rel, re, w, o⟩ => ⟨W, ρ, st, _, e.xq, rel, re, w, ⟨fun W1 H1 d v st1 l1 rel1 rv w1 => o.nx W1 H1 _ _ st1 l1 rel1 ((re.le l1).set rv i) w1, o.xq⟩⟩
/-- a, b = x, y -/
@[simp] def sPar (i j : Nat) (w : MA) : MS := fun e ρ st => w ρ st (fun ds st1 => match ds with | [a, b] => e.nx ((ρ.set i (some a)).set j (some b)) st1 | _ => False) e.xq
theorem sd_par (i j : Nat) {x y : Str} {a b : Expr} {w : MA} {px py pt pos : Pos} {kt k2 pt2} (ha : PDA G E X [a, b] w) (hN : X.N.Nodup) (hij : i ≠ j := by decide) (hi : X.N[i]? = some x := by rfl) (hj : X.N[j]? = some y := by rfl) (hc : X.calm = true := by rfl)
    (hx : X.env.scope.names.lookup x = some .local := by rfl) (hy : X.env.scope.names.lookup y = some .local := by rfl)
    (hw : swappedStores [.Tuple [.Name x px, .Name y py] kt pt] (.Tuple [a, b] k2 pt2) X.env = pure (some [x, y]) := by rfl)
    (hs : swapsWithSole [.Tuple [.Name x px, .Name y py] kt pt] (.Tuple [a, b] k2 pt2) pos.line X.env = pure false := by rfl) :
    PDS G E X (.Assign [.Tuple [.Name x px, .Name y py] kt pt] (.Tuple [a, b] k2 pt2) pos) (sPar i j w) :=
  PS.weak (ps_par hc hN hi hj hij hx hy ha hw hs) fun Dn σ H ⟨W, ρ, st, e, rel, re, w, o⟩ =>
    ⟨W, ρ, st, _, e.xq, rel, re, w, ⟨fun W1 H1 ds vs st1 l1 rel1 rv w1 => by
      split at w1
      · obtain ⟨v, u, rfl, r1, r2⟩ := rpl2 rv
        exact ⟨v, u, rfl, o.nx W1 H1 _ _ st1 l1 rel1 (((re.le l1).set r1 i).set r2 j) w1⟩
      · exact w1.elim, o.xq⟩⟩
/-- x += e, numbers -/
@[simp] def sAug (i : Nat) (g : Int → Int → Int) (w : ME) : MS := fun e ρ st => match ρ[i]? with
  | some (some d) => w ρ st (fun y st1 => onI d fun a => onI y fun b => e.nx (ρ.set i (some (.int (g a b)))) st1) e.xq
  | _ => False
theorem sd_aug (i : Nat) {x : Str} {v : Expr} {w : ME} {op : Operator} {g : Int → Int → Int} {pos pos' : Pos} (ho : PIp X op (ipI g)) (hv : PDE G E X v w) (hN : X.N.Nodup) (hi : X.N[i]? = some x := by rfl) (hx : Loc X.env.scope x := by first | exact Or.inl rfl | exact Or.inr rfl) (hf : X.fn x = true ∨ X.env.scope.names.lookup x = some .local := by first | exact .inl rfl | exact .inr rfl) :
    PDS G E X (.AugAssign (.Name x pos') op v pos) (sAug i g w) :=
  PS.weak (ps_aug hN hi hx hv ho hf) fun Dn σ H ⟨W, ρ, st, e, rel, re, w, o⟩ => by
    unfold sAug at w
    split at w
    · rename_i d e1
      obtain ⟨v, h1, h2⟩ := re.get i d e1
      refine ⟨v, h1, W, ρ, st, _, e.xq, rel, re, w, ⟨fun W1 H1 dy y st1 l1 rel1 ry w1 => ?_, o.xq⟩⟩
      obtain ⟨a, rfl, w1⟩ := onI_of h2 w1
      obtain ⟨b, rfl, w1⟩ := onI_of ry w1
      exact ⟨a, b, rfl, rfl, o.nx W1 H1 _ _ st1 l1 rel1 ((re.le l1).set (d := .int (g a b)) (v := .int (g a b)) rfl i) w1⟩
    · cases w
/-! ### while -/
def sWh (c : MT) (b : MS) : MS := fun e ρ st => ∃ Wv : Nat → DEnv → Sto → Prop, (∃ m, Wv m ρ st) ∧ ∀ m ρ st, Wv m ρ st →
  c ρ st (fun z st1 => if z = true then b { e with nx := fun ρ' st' => ∃ m', m' < m ∧ Wv m' ρ' st', ct := fun ρ' st' => ∃ m', m' < m ∧ Wv m' ρ' st', bk := e.nx } ρ st1 else e.nx ρ st1) e.xq
theorem sd_while {c : Expr} {body : List Stmt} {wc : MT} {wb : MS} {pos : Pos} (hp : PassesOwn (model X.prog X.w) X.A X.env X.xe) (hc : PDT G E X c wc) (hb : PDSs G E X body wb) : PDS G E X (.While c body [] pos) (sWh wc wb) :=
  PS.weak (ps_while hp hc hb) fun Dn σ H ⟨W, ρ, st, e, rel, re, w, o⟩ => by
    obtain ⟨Wv, ⟨m0, w0⟩, turn⟩ := w
    refine ⟨fun m σ' H' => ∃ W' ρ' st', Le W H W' H' ∧ Rel G W' H' st' ∧ RpE G.K W' H' ρ' σ' ∧ Wv m ρ' st', ⟨m0, W, ρ, st, Le.refl, rel, re, w0⟩, ?_⟩
    rintro m σ1 H1 ⟨W1, ρ1, st1, l1, rel1, re1, w1⟩
    refine ⟨W1, ρ1, st1, _, e.xq, rel1, re1, turn m ρ1 st1 w1, ⟨fun W2 H2 z st2 l2 rel2 w2 => ?_, (o.le l1).xq⟩⟩
    cases z with
    | false => exact o.nx W2 H2 ρ1 σ1 st2 (l1.trans l2) rel2 (re1.le l2) w2
    | true =>
      refine ⟨fun σ' H' => ∃ m', m' < m ∧ ∃ W' ρ' st', Le W H W' H' ∧ Rel G W' H' st' ∧ RpE G.K W' H' ρ' σ' ∧ Wv m' ρ' st', fun σ' H' h => h, W2, ρ1, st2, _, rel2, re1.le l2, w2, ?_⟩
      have o2 := o.le (l1.trans l2)
      exact ⟨fun W3 H3 ρ3 σ3 st3 l3 rel3 re3 ⟨m', hm, w3⟩ => ⟨m', hm, W3, ρ3, st3, l1.trans (l2.trans l3), rel3, re3, w3⟩, o2.nx,
        fun W3 H3 ρ3 σ3 st3 l3 rel3 re3 ⟨m', hm, w3⟩ => ⟨m', hm, W3, ρ3, st3, l1.trans (l2.trans l3), rel3, re3, w3⟩, o2.rt, o2.xq⟩

/-! ### what is walked -/
abbrev MI := DEnv → Sto → (List D → (Sto → Prop) → Sto → Prop) → XQ → Prop
def ItD (G : Gm) (J : It) (W : Wd) (H : Hp) (xs : List D) (inv : Sto → Prop) : Prop :=
  ∀ (i : Nat) (W' : Wd) (H' : Hp) (st' : Sto), LeR W H W' H' → Rel G W' H' st' → inv st' →
    (xs.length ≤ i → J.stop i H') ∧ ∀ d, xs[i]? = some d → J.go i H' ∧ ∀ x H'', J.yld i H' x H'' → ∃ W'', Le W' H' W'' H'' ∧ Rel G W'' H'' st' ∧ Rp G.K W'' H'' d x
structure OutI (G : Gm) (E : XK) (W : Wd) (H : Hp) (R : List D → (Sto → Prop) → Sto → Prop) (xq : XQ) (Q : It → Hp → Prop) : Prop where
  rt : ∀ W' H' J xs inv st', Le W H W' H' → Rel G W' H' st' → ItD G J W' H' xs inv → R xs inv st' → Q J H'
  xq : ∀ W' H' C st', Le W H W' H' → Rel G W' H' st' → xq C st' → E (.ref C) none H'
def tDI (G : Gm) (E : XK) (wi : MI) : TI := fun σ H Q => ∃ W ρ st R xq, Rel G W H st ∧ RpE G.K W H ρ σ ∧ wi ρ st R xq ∧ OutI G E W H R xq Q
def PDI (G : Gm) (E : XK) (X : Cx) (tg iter : Expr) (wi : MI) : Prop := PI X tg iter (tDI G E wi)
theorem PI.weak {X : Cx} {tg e : Expr} {t t' : TI} (h : PI X tg e t) (hw : ∀ σ H Q, t' σ H Q → t σ H Q) : PI X tg e t' := ⟨fun pins s σ H Q I q => h.run pins s σ H Q I (hw _ _ _ q)⟩
/-- a list or a tuple -/
def iSeq (K : PySem.W.Frag) (tl : TE) : TI := fun σ H R => tl σ H fun x H1 => ∃ a, x = .ref a ∧ (((∃ xs, SqL K H1 a xs) ∧ R (Itl K a) H1) ∨ ((∃ xs, SqT K H1 a xs) ∧ R (Itt K a) H1))
theorem pi_seq {tg l : Expr} {tl : TE} (hl : PE X l tl) : PI X tg l (iSeq X.K tl) := by
  refine ⟨fun pins s σ H R I h => ?_⟩
  refine thn (hl.run pins s σ H _ I h) fun v s1 ⟨x, H1, I1, r1, q1⟩ => ?_
  obtain ⟨a, e, q | q⟩ := q1
  · obtain ⟨⟨xs, hq⟩, q⟩ := q
    subst e
    cases r1
    obtain ⟨its, rv, p, hz⟩ := I1.list hq
    refine wpAny_pyIter_list p.isList ?_
    refine ⟨s1.heap.objs.size, [s1.heap.objs.size], _, _, H1, rfl, I1.kept (t' := s1.toks) fun b o e => Heap.get?_push_of_some _ e, turn_list a _, ⟨_, Heap.get?_push_size _ rfl, rfl, rfl⟩, fun b hb => ?_, q⟩
    have e : b = s1.heap.objs.size := by simpa using hb
    subst e
    exact I1.fpOk (Nat.le_refl _) (I1.hok.fresh (Nat.le_refl _))
  · obtain ⟨⟨xs, hq⟩, q⟩ := q
    subst e
    cases r1
    obtain ⟨its, rv, p, hz⟩ := I1.tuple hq
    refine wpAny_pyIter_tuple (show s1.heap.IsTuple a its.toArray from p) ?_
    refine ⟨s1.heap.objs.size, [s1.heap.objs.size], _, _, H1, rfl, I1.kept (t' := s1.toks) fun b o e => Heap.get?_push_of_some _ e, turn_tuple a _, ⟨_, Heap.get?_push_size _ rfl, rfl, rfl⟩, fun b hb => ?_, q⟩
    have e : b = s1.heap.objs.size := by simpa using hb
    subst e
    exact I1.fpOk (Nat.le_refl _) (I1.hok.fresh (Nat.le_refl _))
theorem it_list {W : Wd} {H : Hp} {a : Addr} {xs : List D} {inv : Sto → Prop} (h : ∀ W' H' st', LeR W H W' H' → Rel G W' H' st' → inv st' → ∃ vs, SqL G.K H' a vs ∧ RpL G.K W' H' xs vs ) : ItD G (Itl G.K a) W H xs inv := by
  intro i W' H' st' l rel hi
  obtain ⟨vs, h1, h2⟩ := h W' H' st' l rel hi
  refine ⟨fun hl => ⟨vs, h1, by rw [h2.length]; exact hl⟩, fun d e => ?_⟩
  obtain ⟨v, e2, rv⟩ := h2.get e
  refine ⟨⟨vs, v, h1, e2⟩, fun x H'' y => ?_⟩
  obtain ⟨rfl, y⟩ := y
  have e3 := y vs h1
  rw [e2] at e3; cases e3
  exact ⟨W', Le.refl, rel, rv⟩
theorem it_tup {W : Wd} {H : Hp} {a : Addr} {xs : List D} {inv : Sto → Prop} (h : ∀ W' H' st', LeR W H W' H' → Rel G W' H' st' → inv st' → ∃ vs, SqT G.K H' a vs ∧ RpL G.K W' H' xs vs ) : ItD G (Itt G.K a) W H xs inv := by
  intro i W' H' st' l rel hi
  obtain ⟨vs, h1, h2⟩ := h W' H' st' l rel hi
  refine ⟨fun hl => ⟨vs, h1, by rw [h2.length]; exact hl⟩, fun d e => ?_⟩
  obtain ⟨v, e2, rv⟩ := h2.get e
  refine ⟨⟨vs, v, h1, e2⟩, fun x H'' y => ?_⟩
  obtain ⟨rfl, y⟩ := y
  have e3 := y vs h1
  rw [e2] at e3; cases e3
  exact ⟨W', Le.refl, rel, rv⟩
def noInv : Sto → Prop := fun _ => True
def dIt (d : D) (st : Sto) (R : List D → (Sto → Prop) → Sto → Prop) : Prop := match d with
  | .lst xs => R xs noInv st
  | .scr xs => R xs noInv st
  | .tup xs => R xs noInv st
  | .hdl k => match st[k]? with | some (.lst xs) => R xs (fun st' => st'[k]? = some (Cell.lst xs)) st | _ => False
  | _ => False
theorem dIt_hdl {st : Sto} {k : Nat} {xs : List D} {R : List D → (Sto → Prop) → Sto → Prop} (h : st[k]? = some (.lst xs)) : dIt (.hdl k) st R = R xs (fun st' => st'[k]? = some (Cell.lst xs)) st := by
  show (match st[k]? with | some (Cell.lst xs) => R xs (fun st' => st'[k]? = some (Cell.lst xs)) st | _ => False) = _
  rw [h]
@[simp] def miSeq (w : ME) : MI := fun ρ st R xq => w ρ st (fun d st1 => dIt d st1 R) xq
theorem mi_seq {tg l : Expr} {w : ME} (h : PDE G E X l w) (hK : G.K = X.K := by rfl) : PDI G E X tg l (miSeq w) :=
  PI.weak (pi_seq h) fun σ H Q ⟨W, ρ, st, R, xq, rel, re, w, o⟩ =>
    ⟨W, ρ, st, _, xq, rel, re, w, ⟨fun W1 H1 d v st1 l1 rel1 rv w1 => by
      rw [← hK]
      unfold dIt at w1
      split at w1
      · rename_i xs
        simp only [Rp] at rv
        obtain ⟨a, vs, rfl, h1, h2, h3, h4⟩ := rv
        refine ⟨a, rfl, .inl ⟨⟨vs, SqL.of h3⟩, o.rt W1 H1 _ xs _ st1 l1 rel1 (it_list fun W2 H2 st2 l2 _ _ => ⟨vs, SqL.of (l2.keep a _ h1 h2 h3).2.2, h4.leR l2⟩) w1⟩⟩
      · rename_i xs
        simp only [Rp] at rv
        obtain ⟨a, vs, rfl, h3, h4⟩ := rv
        refine ⟨a, rfl, .inl ⟨⟨vs, h3.sq⟩, o.rt W1 H1 _ xs _ st1 l1 rel1 (it_list fun W2 H2 st2 l2 _ _ => ⟨vs, (h3.leR l2).sq, h4.leR l2⟩) w1⟩⟩
      · rename_i xs
        simp only [Rp] at rv
        obtain ⟨a, vs, rfl, h3, h4⟩ := rv
        refine ⟨a, rfl, .inr ⟨⟨vs, h3.sq⟩, o.rt W1 H1 _ xs _ st1 l1 rel1 (it_tup fun W2 H2 st2 l2 _ _ => ⟨vs, (h3.leR l2).sq, h4.leR l2⟩) w1⟩⟩
      · rename_i k
        split at w1
        · rename_i xs e
          simp only [Rp] at rv
          obtain ⟨a, h1, rfl⟩ := rv
          obtain ⟨b, h2, vs, h3, h4⟩ := rel1.cell _ _ e
          rw [h1] at h2; cases h2
          refine ⟨a, rfl, .inl ⟨⟨vs, SqL.of h3⟩, o.rt W1 H1 _ xs _ st1 l1 rel1 (it_list fun W2 H2 st2 l2 rel2 hi => ?_) w1⟩⟩
          obtain ⟨b, h5, us, h6, h7⟩ := rel2.cell _ _ hi
          obtain ⟨t, et⟩ := l2.m
          have : W2.m[k]? = some a := by rw [et, List.getElem?_append_left (List.getElem?_eq_some_iff.mp h1).1]; exact h1
          rw [this] at h5; cases h5
          exact ⟨us, SqL.of h6, h7⟩
        · cases w1
      · exact w1.elim, o.xq⟩⟩
/-- range -/
def rngD (lo : Int) (n : Nat) : List D := (List.range n).map fun i => D.int (lo + (i : Nat))
theorem it_rng {W : Wd} {H : Hp} (lo : Int) (n : Nat) : ItD G (Itr lo n) W H (rngD lo n) noInv := by
  intro i W' H' st' l rel _
  refine ⟨fun hl => by show n ≤ i; simpa [rngD] using hl, fun d e => ?_⟩
  have hi : i < n := by
    have := (List.getElem?_eq_some_iff.mp e).1
    simpa [rngD] using this
  refine ⟨hi, fun x H'' y => ?_⟩
  obtain ⟨rfl, rfl⟩ := y
  refine ⟨W', Le.refl, rel, ?_⟩
  simp [rngD, hi] at e
  subst e
  rfl
@[simp] def miR1 (w : MA) : MI := fun ρ st R xq => w ρ st (fun ds st1 => match ds with | [.int j] => -(2 ^ 62) ≤ j ∧ j < 2 ^ 62 ∧ R (rngD 0 j.toNat) noInv st1 | _ => False) xq
theorem mi_r1 {tg a : Expr} {w : MA} {p pos : Pos} (hm : X.mg "range" = none) (ha : PDA G E X [a] w) (hg : Gl X "range" := by rfl) (hs : starEach [a] X.env = [(false, eval a X.env)] := by rfl) : PDI G E X tg (.Call (.Name "range" p) [a] [] pos) (miR1 w) :=
  PI.weak (pi_range1 hg hm ha hs) fun σ H Q ⟨W, ρ, st, R, xq, rel, re, w, o⟩ =>
    ⟨W, ρ, st, _, xq, rel, re, w, ⟨fun W1 H1 ds vs st1 l1 rel1 rv w1 => by
      split at w1
      · obtain ⟨v, rfl, rv2⟩ := rpl1 rv
        obtain rfl : v = V.int _ := rv2
        exact ⟨_, rfl, w1.1, w1.2.1, o.rt W1 H1 _ _ _ st1 l1 rel1 (it_rng 0 _) w1.2.2⟩
      · exact w1.elim, o.xq⟩⟩
@[simp] def miR2 (w : MA) : MI := fun ρ st R xq => w ρ st (fun ds st1 => match ds with | [.int i, .int j] => (-(2 ^ 62) ≤ i ∧ i < 2 ^ 62 ∧ -(2 ^ 62) ≤ j ∧ j < 2 ^ 62) ∧ R (rngD i (j - i).toNat) noInv st1 | _ => False) xq
theorem mi_r2 {tg a b : Expr} {w : MA} {p pos : Pos} (hm : X.mg "range" = none) (ha : PDA G E X [a, b] w) (hg : Gl X "range" := by rfl) (hs : starEach [a, b] X.env = [(false, eval a X.env), (false, eval b X.env)] := by rfl) (hs2 : starEach [b] X.env = [(false, eval b X.env)] := by rfl) : PDI G E X tg (.Call (.Name "range" p) [a, b] [] pos) (miR2 w) :=
  PI.weak (pi_range2 hg hm ha hs hs2) fun σ H Q ⟨W, ρ, st, R, xq, rel, re, w, o⟩ =>
    ⟨W, ρ, st, _, xq, rel, re, w, ⟨fun W1 H1 ds vs st1 l1 rel1 rv w1 => by
      split at w1
      · obtain ⟨v, u, rfl, rv2, ru⟩ := rpl2 rv
        obtain rfl : v = V.int _ := rv2
        obtain rfl : u = V.int _ := ru
        exact ⟨_, _, rfl, w1.1, o.rt W1 H1 _ _ _ st1 l1 rel1 (it_rng _ _) w1.2⟩
      · exact w1.elim, o.xq⟩⟩
/-- range(a, b, -1) -/
def rngDn (lo : Int) (n : Nat) : List D := (List.range n).map fun i => D.int (lo - (i : Nat))
theorem it_rngn {W : Wd} {H : Hp} (lo : Int) (n : Nat) : ItD G (Itc lo (-1) n) W H (rngDn lo n) noInv := by
  intro i W' H' st' l rel _
  refine ⟨fun hl => by show n ≤ i; simpa [rngDn] using hl, fun d e => ?_⟩
  have hi : i < n := by
    have := (List.getElem?_eq_some_iff.mp e).1
    simpa [rngDn] using this
  refine ⟨hi, fun x H'' y => ?_⟩
  obtain ⟨rfl, rfl⟩ := y
  refine ⟨W', Le.refl, rel, ?_⟩
  simp [rngDn, hi] at e
  subst e
  simp only [Rp]
  congr 1
  omega
@[simp] def miR3n (w : MA) : MI := fun ρ st R xq => w ρ st (fun ds st1 => match ds with | [.int i, .int j, .int c] => c = -1 ∧ (-(2 ^ 62) ≤ i ∧ i < 2 ^ 62 ∧ -(2 ^ 62) ≤ j ∧ j < 2 ^ 62) ∧ R (rngDn i (i - j).toNat) noInv st1 | _ => False) xq
/-! ### for -/
def forD (inv : Sto → Prop) (g : MG) (b : MS) (e : DEnds) : List D → DEnv → Sto → Prop
  | [], ρ, st => inv st ∧ e.nx ρ st
  | x :: xs, ρ, st => inv st ∧ g x ρ st (fun ρ1 st1 => b { e with nx := forD inv g b e xs, ct := forD inv g b e xs, bk := e.nx } ρ1 st1) e.xq
@[simp] def sFor (wi : MI) (g : MG) (b : MS) : MS := fun e ρ st => wi ρ st (fun xs inv st1 => forD inv g b e xs ρ st1) e.xq
theorem sd_for {tg iter : Expr} {body : List Stmt} {wi : MI} {g : MG} {wb : MS} {pos : Pos} (hp : PassesOwn (model X.prog X.w) X.A X.env X.xe) (hi : PDI G E X tg iter wi) (hg : PDG G E X tg g) (hb : PDSs G E X body wb) (hc : X.calm = true := by rfl)
    (hs : ∀ x, foldedSetIterable iter X.env x = pure x := by intro _; rfl) : PDS G E X (.For tg iter body [] pos) (sFor wi g wb) :=
  PS.weak (ps_for hp hc hi hg hb hs) fun Dn σ H ⟨W, ρ, st, e, rel, re, w, o⟩ =>
    ⟨W, ρ, st, _, e.xq, rel, re, w, ⟨fun W1 H1 J xs inv st1 l1 rel1 it w1 => by
      refine ⟨fun i m σ' H' => m = xs.length - i ∧ i ≤ xs.length ∧ ∃ W' ρ' st', Le W1 H1 W' H' ∧ Rel G W' H' st' ∧ RpE G.K W' H' ρ' σ' ∧ forD inv g wb e (xs.drop i) ρ' st', ⟨_, rfl, Nat.zero_le _, W1, ρ, st1, Le.refl, rel1, re.le l1, by simpa using w1⟩, ?_⟩
      rintro i m σ2 H2 ⟨rfl, hi, W2, ρ2, st2, l2, rel2, re2, w2⟩
      have o2 := o.le (l1.trans l2)
      by_cases hlt : i < xs.length
      · have ed : xs.drop i = xs[i] :: xs.drop (i + 1) := List.drop_eq_getElem_cons hlt
        rw [ed] at w2
        obtain ⟨hinv, w2⟩ := w2
        obtain ⟨go, hy⟩ := (it i W2 H2 st2 l2.r rel2 hinv).2 xs[i] (by simp [hlt])
        refine .inr ⟨go, fun σ' H' => ∃ W' ρ' st', Le W1 H1 W' H' ∧ Rel G W' H' st' ∧ RpE G.K W' H' ρ' σ' ∧ forD inv g wb e (xs.drop (i + 1)) ρ' st', fun σ' H' h => ⟨xs.length - (i + 1), by omega, rfl, hlt, h⟩, fun x H3 y => ?_⟩
        obtain ⟨W3, l3, rel3, rx⟩ := hy x H3 y
        have o3 := o2.le l3
        refine ⟨W3, xs[i], ρ2, st2, _, e.xq, rel3, re2.le l3, rx, w2, ⟨fun W4 H4 ρ4 σ4 st4 l4 rel4 re4 w4 => ?_, o3.xq⟩⟩
        have o4 := o3.le l4
        refine ⟨W4, ρ4, st4, _, rel4, re4, w4, ⟨fun W5 H5 ρ5 σ5 st5 l5 rel5 re5 w5 => ⟨W5, ρ5, st5, l2.trans (l3.trans (l4.trans l5)), rel5, re5, w5⟩, o4.nx,
          fun W5 H5 ρ5 σ5 st5 l5 rel5 re5 w5 => ⟨W5, ρ5, st5, l2.trans (l3.trans (l4.trans l5)), rel5, re5, w5⟩, o4.rt, o4.xq⟩⟩
      · have hil : i = xs.length := by omega
        subst hil
        rw [List.drop_length] at w2
        exact .inl ⟨(it _ W2 H2 st2 l2.r rel2 w2.1).1 (Nat.le_refl _), o2.nx W2 H2 ρ2 σ2 st2 Le.refl rel2 re2 w2.2⟩, o.xq⟩⟩
end
end DL

set_option Elab.async false
set_option linter.all false
set_option maxRecDepth 100000
set_option autoImplicit false
namespace DL
open PySem PySem.Spec PyProof.Rows L2

/-! ## targets of a comprehension: names, tuples of targets -/
inductive Tgt where
  | nm (i : Nat) | tp (ts : List Tgt)
mutual
def Tgt.h (K : PySem.W.Frag) : Tgt → TG
  | .nm i => gName i
  | .tp ts => gTup K ts.length (Tgt.hs K ts)
def Tgt.hs (K : PySem.W.Frag) : List Tgt → TGs
  | [] => gNil
  | t :: ts => gCons (Tgt.h K t) (Tgt.hs K ts)
end
mutual
def Tgt.run : Tgt → D → DEnv → (DEnv → Prop) → Prop
  | .nm i, d, ρ, k => k (ρ.set i (some d))
  | .tp ts, d, ρ, k => match d with | .tup ds => ds.length = ts.length ∧ Tgt.runs ts ds ρ k | _ => False
def Tgt.runs : List Tgt → List D → DEnv → (DEnv → Prop) → Prop
  | [], ds, ρ, k => ds = [] ∧ k ρ
  | t :: ts, ds, ρ, k => match ds with | d :: ds => Tgt.run t d ρ (fun ρ1 => Tgt.runs ts ds ρ1 k) | [] => False
end
mutual
def Tgt.sl : Tgt → List Nat
  | .nm i => [i]
  | .tp ts => Tgt.sls ts
def Tgt.sls : List Tgt → List Nat
  | [] => []
  | t :: ts => Tgt.sl t ++ Tgt.sls ts
end
theorem wipe_set {i : Nat} {x : Option V} : ∀ {vs : List Nat} {σ : L2.St}, i ∈ vs → wipe (σ.set i x) vs = wipe σ vs
  | [], _, h => by cases h
  | v :: vs, σ, h => by
    unfold wipe
    by_cases e : i ∈ vs
    · rw [wipe_set e]
    · have hv : i = v := by
        rcases List.mem_cons.mp h with h | h
        · exact h
        · exact absurd h e
      subst hv
      have comm : ∀ {us : List Nat} {σ : L2.St}, i ∉ us → wipe (σ.set i x) us = (wipe σ us).set i x := by
        intro us
        induction us with
        | nil => intro σ _; rfl
        | cons u us ih =>
          intro σ hu
          simp only [List.mem_cons, not_or] at hu
          unfold wipe
          rw [ih hu.2, List.set_comm _ _ hu.1]
      rw [comm e, List.set_set]
theorem wipe_get {i : Nat} : ∀ {vs : List Nat} {σ : L2.St}, (wipe σ vs)[i]? = if i ∈ vs then (σ[i]?).map (fun _ => none) else σ[i]?
  | [], σ => by simp [wipe]
  | v :: vs, σ => by
    unfold wipe
    by_cases e : v = i
    · subst e
      simp only [List.mem_cons, true_or, if_true]
      by_cases h : v < (wipe σ vs).length
      · rw [List.getElem?_set_self h]
        rw [wipe_length] at h
        simp [h]
      · rw [List.getElem?_eq_none (by simpa using h)]
        rw [wipe_length] at h
        rw [List.getElem?_eq_none (by omega)]
        rfl
    · rw [List.getElem?_set_ne e, wipe_get]
      simp only [List.mem_cons, Ne.symm e, false_or]
theorem wipe_wipe {vs : List Nat} {σ : L2.St} : wipe (wipe σ vs) vs = wipe σ vs := by
  apply List.ext_getElem?
  intro i
  rw [wipe_get, wipe_get]
  split
  · cases σ[i]? <;> rfl
  · rfl
section
variable {K : PySem.W.Frag} {W : Wd} {H : Hp} {vs : List Nat}
mutual
theorem Tgt.sd : ∀ (t : Tgt) {d : D} {v : V} {ρ : DEnv} {σ : L2.St} {k : DEnv → Prop} {Q : L2.St → Hp → Prop}, (∀ i ∈ t.sl, i ∈ vs) → RpE K W H ρ σ → Rp K W H d v → t.run d ρ k → (∀ ρ' σ', RpE K W H ρ' σ' → wipe σ' vs = wipe σ vs → k ρ' → Q σ' H) → t.h K v σ H Q
  | .nm i, d, v, ρ, σ, k, Q, hs, re, rv, w, o => o _ _ (re.set rv i) (wipe_set (hs i (by simp [Tgt.sl]))) w
  | .tp ts, d, v, ρ, σ, k, Q, hs, re, rv, w, o => by
    simp only [Tgt.run] at w
    split at w
    · obtain ⟨a, us, rfl, h1, h2⟩ := tup_sq (G := ⟨K, fun _ => []⟩) rv
      show gTup K ts.length (Tgt.hs K ts) (.ref a) σ H Q
      exact ⟨a, us, rfl, h1, by rw [h2.length]; exact w.1, Tgt.sds ts hs re h2 w.2 o⟩
    · cases w
theorem Tgt.sds : ∀ (ts : List Tgt) {ds : List D} {us : List V} {ρ : DEnv} {σ : L2.St} {k : DEnv → Prop} {Q : L2.St → Hp → Prop}, (∀ i ∈ Tgt.sls ts, i ∈ vs) → RpE K W H ρ σ → RpL K W H ds us → Tgt.runs ts ds ρ k → (∀ ρ' σ', RpE K W H ρ' σ' → wipe σ' vs = wipe σ vs → k ρ' → Q σ' H) → Tgt.hs K ts us σ H Q
  | [], ds, us, ρ, σ, k, Q, hs, re, rv, w, o => by
    simp only [Tgt.runs] at w
    obtain ⟨rfl, w⟩ := w
    simp only [RpL] at rv
    exact ⟨rv, o _ _ re rfl w⟩
  | t :: ts, ds, us, ρ, σ, k, Q, hs, re, rv, w, o => by
    simp only [Tgt.runs] at w
    split at w
    · simp only [RpL] at rv
      obtain ⟨v, r, rfl, h1, h2⟩ := rv
      show gCons (Tgt.h K t) (Tgt.hs K ts) (v :: r) σ H Q
      refine ⟨v, r, rfl, Tgt.sd t (Q := fun σ' H' => Tgt.hs K ts r σ' H' Q) (fun i hi => hs i (by simp [Tgt.sls, hi])) re h1 w fun ρ' σ' re' hw w' => ?_⟩
      exact Tgt.sds ts (fun i hi => hs i (by simp [Tgt.sls, hi])) re' h2 w' fun ρ2 σ2 re2 hw2 w2 => o ρ2 σ2 re2 (hw2.trans hw) w2
    · cases w
end
end
def PTg (X : Cx) (tg : Expr) (t : Tgt) : Prop := PG X tg (t.h X.K)
def PTgs (X : Cx) (tgs : List Expr) (ts : List Tgt) : Prop := PGs X tgs (Tgt.hs X.K ts)
section
variable {X : Cx}
theorem tg_nm (i : Nat) {x : Str} {pos : Pos} (hN : X.N.Nodup) (hi : X.N[i]? = some x := by rfl) (hx : Loc X.env.scope x := by first | exact Or.inl rfl | exact Or.inr rfl) (hf : X.fn x = true ∨ X.env.scope.names.lookup x = some .local := by first | exact .inl rfl | exact .inr rfl) : PTg X (.Name x pos) (.nm i) := pg_name hN hi hx hf
theorem tgs_nil : PTgs X [] [] := pgs_nil
theorem tgs_cons {e : Expr} {es : List Expr} {t : Tgt} {ts : List Tgt} (h1 : PTg X e t) (h2 : PTgs X es ts) (hs : (assignEach (e :: es) X.env).map (·.2) = assign e X.env :: (assignEach es X.env).map (·.2) := by rfl) : PTgs X (e :: es) (t :: ts) := pgs_cons h1 h2 hs
theorem tg_tp {es : List Expr} {k : Nat} {ts : List Tgt} {pos : Pos} (h : PTgs X es ts) (hc : X.calm = true := by rfl) (hn : (assignEach es X.env).length = ts.length := by rfl) (hst : (assignEach es X.env).findIdx? (·.1) = none := by rfl) : PTg X (.Tuple es k pos) (.tp ts) := pg_tup hc h hn hst
end

/-! ## comprehensions -/
@[simp] def noX : XQ := fun _ _ => False
@[simp] def wipeD (ρ : DEnv) : List Nat → DEnv
  | [] => ρ
  | v :: vs => (wipeD ρ vs).set v none
theorem RpE.wipe {K : PySem.W.Frag} {W : Wd} {H : Hp} {ρ : DEnv} {σ : L2.St} (r : RpE K W H ρ σ) : ∀ vs : List Nat, RpE K W H (wipeD ρ vs) (L2.wipe σ vs)
  | [] => r
  | v :: vs => by
    have ih := r.wipe vs
    unfold wipeD L2.wipe
    refine ⟨by simp [ih.len], fun i d e => ?_⟩
    by_cases h : v = i
    · subst h
      by_cases hv : v < (wipeD ρ vs).length
      · rw [List.getElem?_set_self hv] at e; cases e
      · rw [List.getElem?_eq_none (by simpa using hv)] at e; cases e
    · rw [List.getElem?_set_ne h] at e
      obtain ⟨u, h1, h2⟩ := ih.get i d e
      exact ⟨u, by rw [List.getElem?_set_ne h]; exact h1, h2⟩
theorem RpE.leR {K : PySem.W.Frag} {W W' : Wd} {H H' : Hp} {ρ : DEnv} {σ : L2.St} (r : RpE K W H ρ σ) (l : LeR W H W' H') : RpE K W' H' ρ σ :=
  ⟨r.len, fun i d e => let ⟨v, h1, h2⟩ := r.get i d e; ⟨v, h1, h2.leR l⟩⟩
def lcD (inv : Sto → Prop) (g : Tgt) (tt : MT) (te : ME) (ρ : DEnv) (R : List D → Sto → Prop) : List D → List D → Sto → Prop
  | [], acc, st => inv st ∧ R acc st
  | x :: xs, acc, st => inv st ∧ g.run x ρ fun ρ1 => tt ρ1 st (fun b st1 => if b = true then te ρ1 st1 (fun d st2 => acc.length < sizeLine ∧ lcD inv g tt te ρ R xs (acc ++ [d]) st2) noX else lcD inv g tt te ρ R xs acc st1) noX
/-- the list as data, as a handle -/
@[simp] def mLc (wi : MI) (g : Tgt) (tt : MT) (te : ME) (vs : List Nat) : ME := fun ρ st R xq => wi ρ st (fun xs inv st1 => lcD inv g tt te (wipeD ρ vs) (fun acc st2 => R (.lst acc) st2) xs [] st1) xq
@[simp] def mLcH (wi : MI) (g : Tgt) (tt : MT) (te : ME) (vs : List Nat) : ME := fun ρ st R xq => wi ρ st (fun xs inv st1 => lcD inv g tt te (wipeD ρ vs) (fun acc st2 => R (.hdl st2.length) (st2 ++ [.lst acc])) xs [] st1) xq
@[simp] def mYes : MT := fun _ st R _ => R true st
def PDTs (G : Gm) (E : XK) (X : Cx) (es : List Expr) (w : MT) : Prop := PTs X es (tDT G E w)
theorem ts_nil {G : Gm} {E : XK} {X : Cx} : PDTs G E X [] mYes := ⟨fun pins s σ H Q I ⟨W, ρ, st, R, xq, rel, re, w, o⟩ => wpAny_tests_nil ⟨H, I, o.rt W H true st Le.refl rel w⟩⟩
theorem ts_one {G : Gm} {E : XK} {X : Cx} {c : Expr} {w : MT} (h : PDT G E X c w) : PDTs G E X [c] w := pts_one h
/-- the loop of a comprehension -/
theorem lc_loop {G : Gm} {J : It} {W1 : Wd} {H1 : Hp} {xs : List D} {inv : Sto → Prop} {g : Tgt} {tt : MT} {te : ME} {ρ : DEnv} {σ : L2.St} {R : List D → Sto → Prop} {st1 : Sto} {vs : List Nat} {Q : Hp → Prop} {D : Addr}
    (rel : Rel G W1 H1 st1) (re : RpE G.K W1 H1 ρ σ) (it : ItD G J W1 H1 xs inv) (hg : ∀ i ∈ g.sl, i ∈ vs) (hD : H1 D = none)
    (w : lcD inv g tt te (wipeD ρ vs) R xs [] st1)
    (fin : ∀ m' H' acc vacc st', Le W1 H1 ⟨m', W1.ex⟩ H' → Rel G ⟨m', D :: W1.ex⟩ H' st' → H' D = some (.lst vacc) → RpL G.K ⟨m', D :: W1.ex⟩ H' acc vacc → R acc st' → Q H') :
    ∃ Wn : Nat → Nat → Hp → Prop, (∃ m, Wn 0 m (upd H1 D (.lst []))) ∧ ∀ i m H, Wn i m H →
      (J.stop i H ∧ Q H) ∨ (J.go i H ∧ ∃ Nx : Hp → Prop, (∀ H', Nx H' → ∃ m', m' < m ∧ Wn (i + 1) m' H') ∧ ∀ x H', J.yld i H x H' → g.h G.K x (wipe σ vs) H' fun σ2 H2 => wipe σ2 vs = wipe σ vs ∧ tDT G E0 tt σ2 H2 fun b H3 =>
        if b = true then tD G E0 te σ2 H3 fun y H4 => ∃ acc, H4 D = some (.lst acc) ∧ acc.length < sizeLine ∧ Nx (upd H4 D (.lst (acc ++ [y]))) else Nx H3) := by
  have toR : ∀ {m' : List Addr} {H' : Hp}, Le W1 H1 ⟨m', W1.ex⟩ H' → LeR W1 H1 ⟨m', D :: W1.ex⟩ H' := fun {m' H'} l =>
    ⟨l.m, fun a o h1 h2 e => let q := l.keep a o h1 e; ⟨q.1, by simp only [List.mem_cons, not_or]; exact ⟨ne_of_none e hD, h2⟩, q.2⟩⟩
  refine ⟨fun i m H => m = xs.length - i ∧ i ≤ xs.length ∧ ∃ m' acc vacc st', Le W1 H1 ⟨m', W1.ex⟩ H ∧ Rel G ⟨m', D :: W1.ex⟩ H st' ∧ H D = some (.lst vacc) ∧ RpL G.K ⟨m', D :: W1.ex⟩ H acc vacc ∧ lcD inv g tt te (wipeD ρ vs) R (xs.drop i) acc st',
    ⟨_, rfl, Nat.zero_le _, W1.m, [], [], st1, Le.fresh hD, rel.hide hD, upd_same, RpL.nil, by simpa using w⟩, ?_⟩
  rintro i m H ⟨rfl, hi, m2, acc, vacc, st2, l2, rel2, hD2, ra2, w2⟩
  by_cases hlt : i < xs.length
  · have ed : xs.drop i = xs[i] :: xs.drop (i + 1) := List.drop_eq_getElem_cons hlt
    rw [ed] at w2
    obtain ⟨hinv, w2⟩ := w2
    obtain ⟨go, hy⟩ := (it i ⟨m2, D :: W1.ex⟩ H st2 (toR l2) rel2 hinv).2 xs[i] (by simp [hlt])
    refine .inr ⟨go, fun H' => ∃ m' acc vacc st', Le W1 H1 ⟨m', W1.ex⟩ H' ∧ Rel G ⟨m', D :: W1.ex⟩ H' st' ∧ H' D = some (.lst vacc) ∧ RpL G.K ⟨m', D :: W1.ex⟩ H' acc vacc ∧ lcD inv g tt te (wipeD ρ vs) R (xs.drop (i + 1)) acc st',
      fun H' h => ⟨xs.length - (i + 1), by omega, rfl, hlt, h⟩, fun x H3 y => ?_⟩
    obtain ⟨W3, l3, rel3, rx⟩ := hy x H3 y
    -- grown inside: the outer world grows alike
    have grow : ∀ {m3 : List Addr} {H3 : Hp} {W' : Wd} {H' : Hp}, Le W1 H1 ⟨m3, W1.ex⟩ H3 → Le ⟨m3, D :: W1.ex⟩ H3 W' H' → ∃ m', W' = ⟨m', D :: W1.ex⟩ ∧ Le W1 H1 ⟨m', W1.ex⟩ H' := by
      intro m3 H3 W' H' a b
      obtain ⟨m', ex'⟩ := W'
      have e1 : ex' = D :: W1.ex := b.ex
      subst e1
      exact ⟨m', rfl, a.trans ⟨rfl, b.m, b.keep⟩⟩
    have hDm : ∀ {m3 : List Addr} {H3 : Hp} {st : Sto}, Rel G ⟨m3, D :: W1.ex⟩ H3 st → D ∉ m3 := fun r z => r.out D z List.mem_cons_self
    obtain ⟨m3, rfl, lo3⟩ := grow l2 l3
    have hD3 : H3 D = some (.lst vacc) := (l3.keep D _ (hDm rel2) hD2).2
    have ra3 := ra2.le l3
    refine Tgt.sd g hg ((re.leR (toR lo3)).wipe vs) rx w2 fun ρ4 σ4 re4 hw w4 => ⟨hw.trans wipe_wipe, ?_⟩
    refine ⟨_, ρ4, st2, _, noX, rel3, re4, w4, ⟨fun W5 H5 b st5 l5 rel5 w5 => ?_, fun _ _ _ _ _ _ z => z.elim⟩⟩
    obtain ⟨m5, rfl, lo5⟩ := grow lo3 l5
    have hD5 : H5 D = some (.lst vacc) := (l5.keep D _ (hDm rel3) hD3).2
    have ra5 := ra3.le l5
    cases b with
    | false =>
      rw [if_neg Bool.false_ne_true] at w5 ⊢
      exact ⟨m5, acc, vacc, st5, lo5, rel5, hD5, ra5, w5⟩
    | true =>
      rw [if_pos rfl] at w5 ⊢
      refine ⟨_, ρ4, st5, _, noX, rel5, re4.le l5, w5, ⟨fun W6 H6 d v st6 l6 rel6 rv w6 => ?_, fun _ _ _ _ _ _ z => z.elim⟩⟩
      obtain ⟨m6, rfl, lo6⟩ := grow lo5 l6
      have hD6 : H6 D = some (.lst vacc) := (l6.keep D _ (hDm rel5) hD5).2
      have ra6 := ra5.le l6
      obtain ⟨rel7, l7⟩ := rel6.hidden (a := D) (o := HO.lst (vacc ++ [v])) List.mem_cons_self
      refine ⟨vacc, hD6, by rw [ra6.length]; exact w6.1, m6, acc ++ [d], vacc ++ [v], st6, ?_, rel7, upd_same, (ra6.append (.one rv)).leR l7, w6.2⟩
      refine ⟨rfl, lo6.m, fun a o h1 e => ?_⟩
      obtain ⟨q1, q2⟩ := lo6.keep a o h1 e
      exact ⟨q1, by rw [upd_ne (ne_of_none e hD)]; exact q2⟩
  · have hil : i = xs.length := by omega
    subst hil
    rw [List.drop_length] at w2
    exact .inl ⟨(it _ ⟨m2, D :: W1.ex⟩ H st2 (toR l2) rel2 w2.1).1 (Nat.le_refl _), fin m2 H acc vacc st2 l2 rel2 hD2 ra2 w2.2⟩
section
variable {G : Gm} {E : XK} {X : Cx}
theorem lc_weak {wi : MI} {g : Tgt} {tt : MT} {te : ME} {vs : List Nat} (hg : ∀ i ∈ g.sl, i ∈ vs) {σ : L2.St} {H : Hp} {Q : VK} (h : tD G E (mLc wi g tt te vs) σ H Q) : tLc (tDI G E wi) (g.h G.K) (tDT G E0 tt) (tD G E0 te) vs σ H Q := by
  obtain ⟨W, ρ, st, R, xq, rel, re, w, o⟩ := h
  refine ⟨W, ρ, st, _, xq, rel, re, w, ⟨fun W1 H1 J xs inv st1 l1 rel1 it w1 D hD => ?_, o.xq⟩⟩
  refine lc_loop rel1 (re.le l1) it hg hD w1 fun m' H' acc vacc st' l r e ra q => ?_
  refine o.rt ⟨m', W1.ex⟩ H' (.lst acc) (.ref D) st' (l1.trans l) r.show ?_ q
  simp only [Rp]
  refine ⟨D, vacc, rfl, fun z => r.out D z List.mem_cons_self, rel1.nex hD, e, ra.leR LeR.show⟩
theorem lc_weakH {wi : MI} {g : Tgt} {tt : MT} {te : ME} {vs : List Nat} (hg : ∀ i ∈ g.sl, i ∈ vs) {σ : L2.St} {H : Hp} {Q : VK} (h : tD G E (mLcH wi g tt te vs) σ H Q) : tLc (tDI G E wi) (g.h G.K) (tDT G E0 tt) (tD G E0 te) vs σ H Q := by
  obtain ⟨W, ρ, st, R, xq, rel, re, w, o⟩ := h
  refine ⟨W, ρ, st, _, xq, rel, re, w, ⟨fun W1 H1 J xs inv st1 l1 rel1 it w1 D hD => ?_, o.xq⟩⟩
  refine lc_loop rel1 (re.le l1) it hg hD w1 fun m' H' acc vacc st' l r e ra q => ?_
  obtain ⟨r2, rh⟩ := r.toH (rel1.nex hD) e ra
  have l3 : Le W1 H1 ⟨m' ++ [D], W1.ex⟩ H' := by
    obtain ⟨t, et⟩ := l.m
    refine ⟨rfl, ⟨t ++ [D], by show m' ++ [D] = _; rw [show m' = W1.m ++ t from et, List.append_assoc]⟩, fun a u h1 e1 => ?_⟩
    obtain ⟨q1, q2⟩ := l.keep a u h1 e1
    exact ⟨by simp only [List.mem_append, List.mem_singleton, not_or]; exact ⟨q1, ne_of_none e1 hD⟩, q2⟩
  exact o.rt _ H' (.hdl st'.length) (.ref D) _ (l1.trans l3) r2 rh q
/-- the block's context -/
abbrev Bk (X : Cx) (scope : Scope) (s : Shared) (H : Hp) (C : Addr) (cl : List (Str × Addr)) (fp : List Addr) : Cx := X.blk s H scope (compEnvC scope cl C X.env) fp
theorem pd_lc {elt tg iter : Expr} {ifs : List Expr} {scope : Scope} (own : List (Str × Nat)) {pos : Pos} {wi : MI} {g : Tgt} {tt : MT} {te : ME} (ok : BlkOk X.N X.env.scope scope own) (hN : X.N.Nodup) (hi : PDI G E X tg iter wi)
    (hg : ∀ (s : Shared) (H : Hp) (C : Addr) (cl : List (Str × Addr)) (fp : List Addr), PTg (Bk X scope s H C cl fp) tg g) (ht : ∀ (s : Shared) (H : Hp) (C : Addr) (cl : List (Str × Addr)) (fp : List Addr), PDTs G E0 (Bk X scope s H C cl fp) ifs tt)
    (he : ∀ (s : Shared) (H : Hp) (C : Addr) (cl : List (Str × Addr)) (fp : List Addr), PDE G E0 (Bk X scope s H C cl fp) elt te) (hsl : ∀ i ∈ g.sl, i ∈ own.map (·.2) := by decide) (hc : X.calm = true := by rfl) (hs : ∀ x, foldedSetIterable iter X.env x = pure x := by intro _; rfl) (hK : G.K = X.K := by rfl) :
    PDE G E X (.ListComp elt [⟨tg, iter, ifs, 0⟩] scope pos) (mLc wi g tt te (own.map (·.2))) :=
  PE.weak (pe_lc hc hN hi ok (fun s H C cl fp => by rw [hK]; exact hg s H C cl fp) ht he hs) fun _ _ _ h => lc_weak hsl h
theorem pd_lcH {elt tg iter : Expr} {ifs : List Expr} {scope : Scope} (own : List (Str × Nat)) {pos : Pos} {wi : MI} {g : Tgt} {tt : MT} {te : ME} (ok : BlkOk X.N X.env.scope scope own) (hN : X.N.Nodup) (hi : PDI G E X tg iter wi)
    (hg : ∀ (s : Shared) (H : Hp) (C : Addr) (cl : List (Str × Addr)) (fp : List Addr), PTg (Bk X scope s H C cl fp) tg g) (ht : ∀ (s : Shared) (H : Hp) (C : Addr) (cl : List (Str × Addr)) (fp : List Addr), PDTs G E0 (Bk X scope s H C cl fp) ifs tt)
    (he : ∀ (s : Shared) (H : Hp) (C : Addr) (cl : List (Str × Addr)) (fp : List Addr), PDE G E0 (Bk X scope s H C cl fp) elt te) (hsl : ∀ i ∈ g.sl, i ∈ own.map (·.2) := by decide) (hc : X.calm = true := by rfl) (hs : ∀ x, foldedSetIterable iter X.env x = pure x := by intro _; rfl) (hK : G.K = X.K := by rfl) :
    PDE G E X (.ListComp elt [⟨tg, iter, ifs, 0⟩] scope pos) (mLcH wi g tt te (own.map (·.2))) :=
  PE.weak (pe_lc hc hN hi ok (fun s H C cl fp => by rw [hK]; exact hg s H C cl fp) ht he hs) fun _ _ _ h => lc_weakH hsl h
theorem sd_setLc (i : Nat) {y : Str} {py : Pos} {elt tg iter : Expr} {ifs : List Expr} {scope : Scope} (own : List (Str × Nat)) {pos spos : Pos} {wi : MI} {g : Tgt} {tt : MT} {te : ME} (ok : BlkOk X.N X.env.scope scope own) (hN : X.N.Nodup) (hi : PDI G E X tg iter wi)
    (hg : ∀ (s : Shared) (H : Hp) (C : Addr) (cl : List (Str × Addr)) (fp : List Addr), PTg (Bk X scope s H C cl fp) tg g) (ht : ∀ (s : Shared) (H : Hp) (C : Addr) (cl : List (Str × Addr)) (fp : List Addr), PDTs G E0 (Bk X scope s H C cl fp) ifs tt)
    (he : ∀ (s : Shared) (H : Hp) (C : Addr) (cl : List (Str × Addr)) (fp : List Addr), PDE G E0 (Bk X scope s H C cl fp) elt te) (hsl : ∀ i ∈ g.sl, i ∈ own.map (·.2) := by decide)
    (hsw : swapsWith (.ListComp elt [⟨tg, iter, ifs, 0⟩] scope pos) (some (.Name y py)) spos.line X.env = pure true := by exact sw_true rfl rfl rfl (by decide +kernel)) (hy : X.N[i]? = some y := by rfl) (hyl : X.env.scope.names.lookup y = some .local := by rfl) (hc : X.calm = true := by rfl) (hs : ∀ x, foldedSetIterable iter X.env x = pure x := by intro _; rfl) (hK : G.K = X.K := by rfl) :
    PDS G E X (.Assign [.Name y py] (.ListComp elt [⟨tg, iter, ifs, 0⟩] scope pos) spos) (sAs (mLc wi g tt te (own.map (·.2))) (gNm i)) :=
  PS.weak (ps_setLc hc hN hy hyl hsw hi ok (fun s H C cl fp => by rw [hK]; exact hg s H C cl fp) ht he hs) fun Dn σ H ⟨W, ρ, st, e, rel, re, w, o⟩ =>
    lc_weak hsl ⟨W, ρ, st, _, e.xq, rel, re, w, ⟨fun W1 H1 d v st1 l1 rel1 rv w1 => o.nx W1 H1 _ _ st1 l1 rel1 ((re.le l1).set rv i) w1, o.xq⟩⟩
theorem sd_setLcH (i : Nat) {y : Str} {py : Pos} {elt tg iter : Expr} {ifs : List Expr} {scope : Scope} (own : List (Str × Nat)) {pos spos : Pos} {wi : MI} {g : Tgt} {tt : MT} {te : ME} (ok : BlkOk X.N X.env.scope scope own) (hN : X.N.Nodup) (hi : PDI G E X tg iter wi)
    (hg : ∀ (s : Shared) (H : Hp) (C : Addr) (cl : List (Str × Addr)) (fp : List Addr), PTg (Bk X scope s H C cl fp) tg g) (ht : ∀ (s : Shared) (H : Hp) (C : Addr) (cl : List (Str × Addr)) (fp : List Addr), PDTs G E0 (Bk X scope s H C cl fp) ifs tt)
    (he : ∀ (s : Shared) (H : Hp) (C : Addr) (cl : List (Str × Addr)) (fp : List Addr), PDE G E0 (Bk X scope s H C cl fp) elt te) (hsl : ∀ i ∈ g.sl, i ∈ own.map (·.2) := by decide)
    (hsw : swapsWith (.ListComp elt [⟨tg, iter, ifs, 0⟩] scope pos) (some (.Name y py)) spos.line X.env = pure true := by exact sw_true rfl rfl rfl (by decide +kernel)) (hy : X.N[i]? = some y := by rfl) (hyl : X.env.scope.names.lookup y = some .local := by rfl) (hc : X.calm = true := by rfl) (hs : ∀ x, foldedSetIterable iter X.env x = pure x := by intro _; rfl) (hK : G.K = X.K := by rfl) :
    PDS G E X (.Assign [.Name y py] (.ListComp elt [⟨tg, iter, ifs, 0⟩] scope pos) spos) (sAs (mLcH wi g tt te (own.map (·.2))) (gNm i)) :=
  PS.weak (ps_setLc hc hN hy hyl hsw hi ok (fun s H C cl fp => by rw [hK]; exact hg s H C cl fp) ht he hs) fun Dn σ H ⟨W, ρ, st, e, rel, re, w, o⟩ =>
    lc_weakH hsl ⟨W, ρ, st, _, e.xq, rel, re, w, ⟨fun W1 H1 d v st1 l1 rel1 rv w1 => o.nx W1 H1 _ _ st1 l1 rel1 ((re.le l1).set rv i) w1, o.xq⟩⟩
end
/-! ## a def -/
@[simp] def startD (N : List Str) (ds : List D) : DEnv := ds.map some ++ List.replicate (N.length - ds.length) none
theorem start_rp {K : PySem.W.Frag} {W : Wd} {H : Hp} {N : List Str} {ds : List D} {vs : List V} (r : RpL K W H ds vs) : RpE K W H (startD N ds) (L2.start N vs) := by
  have hl := r.length
  unfold startD L2.start
  refine ⟨by simp [hl], fun i d e => ?_⟩
  by_cases h : i < ds.length
  · rw [List.getElem?_append_left (by simpa using h), List.getElem?_map] at e
    cases q : ds[i]? with
    | none => rw [q] at e; cases e
    | some d' =>
      rw [q] at e
      cases e
      obtain ⟨v, h1, h2⟩ := r.get q
      exact ⟨v, by rw [List.getElem?_append_left (by simpa [hl] using h), List.getElem?_map, h1]; rfl, h2⟩
  · rw [List.getElem?_append_right (by simpa using h)] at e
    have := List.mem_of_getElem? e
    simp at this
theorem FnD.mk {P : Program} {w : World} {G : Gm} {mg : Str → Option Value} {base : Heap} {x qual : Str} {st : Stmt} {f : Addr} {fd : FuncData} {N ps : List Str} {k : Nat} {dsp : DSp} {b : MS} (F : Fun G.K x qual st f fd) (S : FnScope N ps (defScope st)) (len : ∀ ds st R xq, dsp ds st R xq → ds.length = ps.length)
    (der : ∀ (cdv : Value) (A : Around) (outer : List Env) (s : Shared) (H : Hp) (E : XK), Room k (A.deeper (envOfC qual (defScope st) s.heap.objs.size f cdv)) → PDSs G E (cxOf CX0 P w G.K mg base N qual (defScope st) f cdv A outer s H E).nox (defBody st) b)
    (sem : ∀ ds st R xq, dsp ds st R xq → b ⟨fun _ st' => R .non st', R, fun _ _ => False, fun _ _ => False, xq⟩ (startD N ds) st) : FnD P w G mg base CX0 (k + 1) f fd ps dsp := by
  unfold FnD
  refine F.ok S (fun vs H Q E h => ?_) (fun cdv A outer s H vs Q E hr h => ⟨_, der cdv A outer s H E hr, ?_⟩)
  · obtain ⟨W, ds, st, R, xq, rel, rl, hsp, o⟩ := h
    rw [rl.length]; exact len ds st R xq hsp
  · obtain ⟨W, ds, st, R, xq, rel, rl, hsp, o⟩ := h
    exact ⟨W, startD N ds, st, _, rel, start_rp rl, sem ds st R xq hsp, ⟨fun W1 H1 ρ1 σ1 st1 l1 rel1 re1 w1 => o.rt W1 H1 .non .non st1 l1 rel1 rfl w1, fun _ _ _ _ _ _ _ _ z => z.elim, fun _ _ _ _ _ _ _ _ z => z.elim, o.rt, o.xq⟩⟩
end DL

set_option Elab.async false
set_option linter.all false
set_option maxRecDepth 100000
set_option autoImplicit false
namespace DL
open PySem PySem.Spec PyProof.Rows L2

/-! ## == of data -/
mutual
def pyD : D → Option PyData
  | .non => some .none
  | .bl b => some (.bool b)
  | .int i => some (.int i)
  | .str x => some (.str x)
  | .lst xs => (pyDs xs).map .list
  | .scr xs => (pyDs xs).map .list
  | .tup xs => (pyDs xs).map .tuple
  | .hdl _ => none
  | .raw _ => none
  | .exc _ => none
def pyDs : List D → Option (List PyData)
  | [] => some []
  | d :: ds => match pyD d, pyDs ds with | some p, some ps => some (p :: ps) | _, _ => none
end
/-- handles as their lists, n deep -/
def res : Nat → Sto → D → D
  | 0, _, d => d
  | n + 1, st, d => match dr st d with
    | .lst xs => .lst (xs.map (res n st))
    | .tup xs => .tup (xs.map (res n st))
    | d => d
section
variable {G : Gm} {W : Wd} {H : Hp} {st : Sto}
mutual
theorem pyD_dp : ∀ {d : D} {v : V} {p : PyData}, Rp G.K W H d v → pyD d = some p → Dp G.K H v p
  | .non, _, _, h, e => by simp only [pyD] at e; cases e; simp only [Rp] at h; subst h; exact .non
  | .bl b, _, _, h, e => by simp only [pyD] at e; cases e; simp only [Rp] at h; subst h; exact .bl b
  | .int b, _, _, h, e => by simp only [pyD] at e; cases e; simp only [Rp] at h; subst h; exact .int b
  | .str b, _, _, h, e => by simp only [pyD] at e; cases e; simp only [Rp] at h; subst h; exact .str b
  | .lst xs, _, _, h, e => by
    simp only [pyD, Option.map_eq_some_iff] at e
    obtain ⟨ps, e1, rfl⟩ := e
    simp only [Rp] at h
    obtain ⟨a, vs, rfl, _, _, h3, h4⟩ := h
    exact .lst (SqL.of h3) (pyDs_dp h4 e1)
  | .scr xs, _, _, h, e => by
    simp only [pyD, Option.map_eq_some_iff] at e
    obtain ⟨ps, e1, rfl⟩ := e
    simp only [Rp] at h
    obtain ⟨a, vs, rfl, h3, h4⟩ := h
    exact .lst h3.sq (pyDs_dp h4 e1)
  | .tup xs, _, _, h, e => by
    simp only [pyD, Option.map_eq_some_iff] at e
    obtain ⟨ps, e1, rfl⟩ := e
    simp only [Rp] at h
    obtain ⟨a, vs, rfl, h3, h4⟩ := h
    exact .tup h3.sq (pyDs_dp h4 e1)
  | .hdl _, _, _, _, e => by simp [pyD] at e
  | .raw _, _, _, _, e => by simp [pyD] at e
  | .exc _, _, _, _, e => by simp [pyD] at e
theorem pyDs_dp : ∀ {ds : List D} {vs : List V} {ps : List PyData}, RpL G.K W H ds vs → pyDs ds = some ps → DpAll G.K H vs ps
  | [], _, _, h, e => by simp only [pyDs] at e; cases e; simp only [RpL] at h; subst h; exact .nil
  | d :: ds, _, _, h, e => by
    simp only [RpL] at h
    obtain ⟨v, r, rfl, h1, h2⟩ := h
    simp only [pyDs] at e
    split at e
    · rename_i p ps e1 e2
      cases e
      exact .cons (pyD_dp h1 e1) (pyDs_dp h2 e2)
    · cases e
end
theorem res_dp (rel : Rel G W H st) : ∀ (n : Nat) {d : D} {v : V} {p : PyData}, Rp G.K W H d v → pyD (res n st d) = some p → Dp G.K H v p
  | 0, _, _, _, h, e => pyD_dp h e
  | n + 1, d, v, p, h, e => by
    have all : ∀ {ds : List D} {vs : List V} {ps : List PyData}, RpL G.K W H ds vs → pyDs (ds.map (res n st)) = some ps → DpAll G.K H vs ps := by
      intro ds
      induction ds with
      | nil => intro vs ps h e; simp only [List.map_nil, pyDs] at e; cases e; simp only [RpL] at h; subst h; exact .nil
      | cons d ds ih =>
        intro vs ps h e
        simp only [RpL] at h
        obtain ⟨v, r, rfl, h1, h2⟩ := h
        simp only [List.map_cons, pyDs] at e
        split at e
        · rename_i p ps e1 e2
          cases e
          exact .cons (res_dp rel n h1 e1) (ih h2 e2)
        · cases e
    simp only [res] at e
    split at e
    · rename_i xs q
      obtain ⟨a, vs, rfl, h2, h3⟩ := dr_lst rel h q
      simp only [pyD, Option.map_eq_some_iff] at e
      obtain ⟨ps, e1, rfl⟩ := e
      exact .lst (SqL.of h2) (all h3 e1)
    · rename_i xs q
      obtain rfl := dr_tup q
      obtain ⟨a, vs, rfl, h2, h3⟩ := tup_sq h
      simp only [pyD, Option.map_eq_some_iff] at e
      obtain ⟨ps, e1, rfl⟩ := e
      exact .tup h2 (all h3 e1)
    · rename_i q1 q2
      have : dr st d = d := by
        unfold dr
        split
        · split
          · rename_i k _ xs q
            exact absurd (show dr st (.hdl k) = .lst xs from dr_hdl q) (fun z => q1 xs (by assumption))
          · rfl
        · rfl
      rw [this] at e
      exact pyD_dp h e
end
@[simp] def xorB (neg b : Bool) : Bool := if neg then !b else b
@[simp] def dEQ (neg : Bool) : D2 := fun x y st R => match x, y with
  | .int i, .int j => R (.bl (xorB neg (decide (i = j)))) st
  | .bl i, .bl j => R (.bl (xorB neg (decide (i = j)))) st
  | .str i, .str j => R (.bl (xorB neg (decide (i = j)))) st
  | x, y => ∃ n p q, pyD (res n st x) = some p ∧ pyD (res n st y) = some q ∧ SeqAt.shaped p = true ∧ SeqAt.shaped q = true ∧ R (.bl (xorB neg (PyData.eqv p q))) st
section
variable {G : Gm} {E : XK} {X : Cx}
def rEQ (K : PySem.W.Frag) : R2 := fun x y H Q => rEq x y H Q ∨ rEqD K x y H Q
def rNE (K : PySem.W.Frag) : R2 := fun x y H Q => rNe x y H Q ∨ rNeD K x y H Q
theorem op_EQ (hu : X.A.units + 64 < cLine) : OpR X (compareOp .Eq) (rEQ X.K) := op_eq.or (op_eqD hu)
theorem op_NE (hu : X.A.units + 64 < cLine) : OpR X (compareOp .NotEq) (rNE X.K) := op_ne.or (op_neD hu)
theorem dec_V {a b : Int} : decide (V.int a = V.int b) = decide (a = b) := by simp
theorem od_eq (hK : G.K = X.K) : OpD G (rEQ X.K) (dEQ false) := by
  intro E W H st dx dy x y R xq Q rel rx ry w o
  rw [← hK]
  unfold dEQ at w
  split at w
  · simp only [Rp] at rx ry; subst rx; subst ry
    refine .inl ⟨rfl, ?_⟩
    have := o.rt W H (.bl _) _ st Le.refl rel rfl w
    simpa [xorB] using this
  · simp only [Rp] at rx ry; subst rx; subst ry
    refine .inl ⟨rfl, ?_⟩
    have := o.rt W H (.bl _) _ st Le.refl rel rfl w
    simpa [xorB] using this
  · simp only [Rp] at rx ry; subst rx; subst ry
    refine .inl ⟨rfl, ?_⟩
    have := o.rt W H (.bl _) _ st Le.refl rel rfl w
    simpa [xorB] using this
  · obtain ⟨n, p, q, h1, h2, h3, h4, w⟩ := w
    exact .inr ⟨p, q, res_dp rel n rx h1, res_dp rel n ry h2, h3, h4, o.rt W H (.bl _) _ st Le.refl rel rfl w⟩
theorem od_ne (hK : G.K = X.K) : OpD G (rNE X.K) (dEQ true) := by
  intro E W H st dx dy x y R xq Q rel rx ry w o
  rw [← hK]
  unfold dEQ at w
  split at w
  · simp only [Rp] at rx ry; subst rx; subst ry
    refine .inl ⟨rfl, ?_⟩
    have := o.rt W H (.bl _) _ st Le.refl rel rfl w
    simpa [xorB] using this
  · simp only [Rp] at rx ry; subst rx; subst ry
    refine .inl ⟨rfl, ?_⟩
    have := o.rt W H (.bl _) _ st Le.refl rel rfl w
    simpa [xorB] using this
  · simp only [Rp] at rx ry; subst rx; subst ry
    refine .inl ⟨rfl, ?_⟩
    have := o.rt W H (.bl _) _ st Le.refl rel rfl w
    simpa [xorB] using this
  · obtain ⟨n, p, q, h1, h2, h3, h4, w⟩ := w
    exact .inr ⟨p, q, res_dp rel n rx h1, res_dp rel n ry h2, h3, h4, o.rt W H (.bl _) _ st Le.refl rel rfl w⟩
variable {a b : Expr} {wa wb : ME} {pos : Pos}
theorem pd_eq (hu : X.A.units + 64 < cLine) (ha : PDE G E X a wa) (hb : PDE G E X b wb) (hK : G.K = X.K := by rfl) : PDE G E X (.Compare a [.Eq] [b] pos) (mOp (dEQ false) wa wb) := pd_cmp (op_EQ hu) (od_eq hK) ha hb (nomark _)
theorem pt_eq (hu : X.A.units + 64 < cLine) (ha : PDE G E X a wa) (hb : PDE G E X b wb) (hK : G.K = X.K := by rfl) : PDT G E X (.Compare a [.Eq] [b] pos) (mTest (mOp (dEQ false) wa wb)) := pt_cmp (op_EQ hu) (od_eq hK) ha hb (nomark _)
theorem pd_ne (hu : X.A.units + 64 < cLine) (ha : PDE G E X a wa) (hb : PDE G E X b wb) (hK : G.K = X.K := by rfl) : PDE G E X (.Compare a [.NotEq] [b] pos) (mOp (dEQ true) wa wb) := pd_cmp (op_NE hu) (od_ne hK) ha hb (nomark _)
theorem pt_ne (hu : X.A.units + 64 < cLine) (ha : PDE G E X a wa) (hb : PDE G E X b wb) (hK : G.K = X.K := by rfl) : PDT G E X (.Compare a [.NotEq] [b] pos) (mTest (mOp (dEQ true) wa wb)) := pt_cmp (op_NE hu) (od_ne hK) ha hb (nomark _)

/-! ## handles made by + and slices -/
@[simp] def dAddH : D2 := fun x y st R => match dr st x, dr st y with
  | .lst a, .lst b => a.length + b.length ≤ sizeLine ∧ R (.hdl st.length) (st ++ [.lst (a ++ b)])
  | _, _ => False
theorem od_addH : OpD G rADD dAddH := by
  intro E W H st dx dy x y R xq Q rel rx ry w o
  unfold dAddH at w
  split at w
  · rename_i a b e1 e2
    obtain ⟨p, vs, h1, h2, h3⟩ := dr_lst rel rx e1
    obtain ⟨q, us, h4, h5, h6⟩ := dr_lst rel ry e2
    refine .inr (.inr ⟨p, q, vs, us, h1, h4, h2, h5, ?_, fun l hl => ?_⟩)
    · rw [h3.length, h6.length]; exact w.1
    · exact o.rt _ _ (.hdl st.length) _ _ (Le.new hl) (newHL rel hl (h3.append h6)).1 (newHL rel hl (h3.append h6)).2 w.2
  · cases w
@[simp] def dSlH (x : D) (lo hi : Option Int) (st : Sto) (R : DQ) : Prop := match dr st x with
  | .lst xs => R (.hdl st.length) (st ++ [.lst (cutD xs lo hi)])
  | _ => False
@[simp] def mSlH (we : ME) (wl wh : MO) : ME := fun ρ st R xq => we ρ st (fun x st1 => wl ρ st1 (fun lo st2 => wh ρ st2 (fun hi st3 => dSlH x lo hi st3 R) xq) xq) xq
theorem pd_slH {e : Expr} {lo hi : Option Expr} {we : ME} {wl wh : MO} {pos p2 : Pos} (he : PDE G E X e we) (hl : PDO G E X lo wl) (hh : PDO G E X hi wh) (hK : G.K = X.K := by rfl) : PDE G E X (.Subscript e (.Slice lo hi none p2) pos) (mSlH we wl wh) :=
  PE.weak (pe_slice sl_SL he hl hh) fun σ H Q ⟨W, ρ, st, R, xq, rel, re, w, o⟩ =>
  ⟨W, ρ, st, _, xq, rel, re, w, ⟨fun W1 H1 d v st1 l1 rel1 rv w1 =>
    ⟨W1, ρ, st1, _, xq, rel1, re.le l1, w1, ⟨fun W2 H2 lo st2 l2 rel2 w2 =>
      ⟨W2, ρ, st2, _, xq, rel2, re.le (l1.trans l2), w2, ⟨fun W3 H3 hi st3 l3 rel3 w3 => by
        have rv3 := rv.le (l2.trans l3)
        have o3 := o.le (l1.trans (l2.trans l3))
        rw [← hK]
        unfold dSlH at w3
        split at w3
        · rename_i xs e
          obtain ⟨p, vs, h1, h2, h3⟩ := dr_lst rel3 rv3 e
          exact .inl ⟨p, vs, h1, SqL.of h2, fun q hq => o3.rt _ _ (.hdl st3.length) _ _ (Le.new hq) (newHL rel3 hq (cut_rp h3 lo hi)).1 (newHL rel3 hq (cut_rp h3 lo hi)).2 w3⟩
        · exact w3.elim, (o.le (l1.trans l2)).xq⟩⟩, (o.le l1).xq⟩⟩, o.xq⟩⟩
/-! ## xs[::c], c 1 or -1 -/
def rStep (K : PySem.W.Frag) : V → V → Hp → VK → Prop := fun x y H Q => ∃ a xs, x = .ref a ∧ SqL K H a xs ∧ ((y = .int 1 ∧ ∀ p, H p = none → Q (.ref p) (upd H p (.lst xs))) ∨ (y = .int (-1) ∧ ∀ p, H p = none → Q (.ref p) (upd H p (.lst xs.reverse))))
def tStep (K : PySem.W.Frag) (te ts : TE) : TE := fun σ H Q => te σ H fun x H1 => ts σ H1 fun y H2 => rStep K x y H2 Q
theorem pick_one (its : List Value) : slicePick its.toArray none none (some 1) = its.toArray := by
  have e : slicePick its.toArray none none (some 1) = slicePick its.toArray none none none := rfl
  rw [e, slicePick_cut]
  simp [HT.sIx]
theorem pe_step {e c : Expr} {te ts : TE} {p3 pos : Pos} (he : PE X e te) (hc : PE X c ts)
    (hsub : ∀ o i, subscripted (.Slice none none (some c) p3) false o i = operate [o, i] (getItem o i)) : PE X (.Subscript e (.Slice none none (some c) p3) pos) (tStep X.K te ts) := by
  refine ⟨fun pins s σ H Q I h => ?_⟩
  refine Subscript_ (thn (he.run pins s σ H _ I h) fun v s1 ⟨x, H1, I1, r1, q1⟩ => ?_)
  refine wpAny_Slice (thn (po_none.run pins s1 σ H1 (fun o H2 => o = none ∧ H2 = H1) I1 ⟨rfl, rfl⟩) fun vl s2 ⟨l, H2, I2, pl, el, e2⟩ => ?_)
  subst el e2
  refine thn (po_none.run pins s2 σ H2 (fun o H3 => o = none ∧ H3 = H2) I2 ⟨rfl, rfl⟩) fun vu s3 ⟨u, H3, I3, pu, eu, e3⟩ => ?_
  subst eu e3
  rw [evalPart_some]
  refine thn (hc.run pins s3 σ H3 _ I3 q1) fun vs s4 ⟨y, H4, I4, ry, q4⟩ => ?_
  obtain ⟨a, xs, rfl, hx, q4⟩ := q4
  cases (show v = Value.ref a from r1)
  have I5 : Inv X pins σ H4 { s4 with heap := s4.heap.push { cls := .type "slice", data := .fields #[vl, vu, vs] } } := I4.kept (t' := s4.toks) fun b ob q => Heap.get?_push_of_some _ q
  obtain ⟨its, r, ht, hz⟩ := I5.list hx
  have hlen := r.length
  show wpAny (model X.prog X.w) X.A (subscriptTail e (.Slice none none (some c) p3) (.ref a) (.ref s4.heap.objs.size)) (EP X pins σ Q) X.xe { s4 with heap := s4.heap.push { cls := .type "slice", data := .fields #[vl, vu, vs] } }
  refine tail_any (ops := [.ref a, .ref s4.heap.objs.size]) ht.isList.typeIs (PySem.slot_list_getitem.lookup) ?_ (hsub _ _)
  rcases q4 with ⟨rfl, q4⟩ | ⟨rfl, q4⟩
  · obtain ⟨t, rfl⟩ := (show ∃ t, vs = Value.int 1 t from ry)
    refine wpAny_getItem_list_slice ht.isList (Heap.IsSliceOf.new _ vl vu (.int 1 t)) pl pu (.int 1 t) (by decide) ?_ (by rw [List.size_toArray]; omega)
    rw [pick_one]
    refine ⟨.ref _, _, I5.laid (t' := s4.toks) (o := .lst xs) (fun b ob q => Heap.get?_push_of_some _ q) (Nat.le_refl _) ?_, rfl, q4 _ (I5.hok.fresh (Nat.le_refl _))⟩
    exact ⟨hz, _, 0, r, Heap.get?_push_size _ rfl⟩
  · obtain ⟨t, rfl⟩ := (show ∃ t, vs = Value.int (-1) t from ry)
    refine wpAny_getItem_list_slice ht.isList (Heap.IsSliceOf.new _ vl vu (.int (-1) t)) pl pu (.int (-1) t) (by decide) ?_ (by rw [List.size_toArray]; omega)
    rw [PySem.W.krv_pick]
    refine ⟨.ref _, _, I5.laid (t' := s4.toks) (o := .lst xs.reverse) (fun b ob q => Heap.get?_push_of_some _ q) (Nat.le_refl _) ?_, rfl, q4 _ (I5.hok.fresh (Nat.le_refl _))⟩
    exact ⟨by rw [List.length_reverse]; exact hz, _, 0, r.reverse, Heap.get?_push_size _ rfl⟩
@[simp] def dStep (x y : D) (st : Sto) (R : DQ) : Prop := match dr st x, y with
  | .lst xs, .int c => (c = 1 ∧ R (.lst xs) st) ∨ (c = -1 ∧ R (.lst xs.reverse) st)
  | _, _ => False
@[simp] def mSlStep (we wc : ME) : ME := mOp dStep we wc
theorem pd_slStep {e c : Expr} {we wc : ME} {p3 pos : Pos} (he : PDE G E X e we) (hc : PDE G E X c wc) (hsub : ∀ o i, subscripted (.Slice none none (some c) p3) false o i = operate [o, i] (getItem o i) := by intro _ _; with_unfolding_all rfl) (hK : G.K = X.K := by rfl) : PDE G E X (.Subscript e (.Slice none none (some c) p3) pos) (mSlStep we wc) :=
  PE.weak (pe_step he hc hsub) fun σ H Q h => by
    refine op_lift (r := rStep X.K) ?_ h
    intro E W H st dx dy x y R xq Q rel rx ry w o
    rw [← hK]
    unfold dStep at w
    split at w
    · rename_i xs i e
      obtain ⟨a, vs, rfl, h2, h3⟩ := dr_lst rel rx e
      refine ⟨a, vs, rfl, SqL.of h2, ?_⟩
      rcases w with ⟨rfl, w⟩ | ⟨rfl, w⟩
      · exact .inl ⟨ry, fun p hp => o.rt W _ (.lst xs) _ st (Le.fresh hp) (rel.fresh hp) (newL rel hp h3) w⟩
      · exact .inr ⟨ry, fun p hp => o.rt W _ (.lst xs.reverse) _ st (Le.fresh hp) (rel.fresh hp) (newL rel hp h3.reverse) w⟩
    · cases w
/-! ## range(a, b, -1) -/
theorem mi_r3n {tg a b c : Expr} {w : MA} {p pos : Pos} (hm : X.mg "range" = none) (ha : PDA G E X [a, b, c] w) (hg : Gl X "range" := by rfl)
    (hs : starEach [a, b, c] X.env = (false, eval a X.env) :: starEach [b, c] X.env := by rfl) (hpl : (backTo pos (starEach [b, c] X.env)).any (·.1) = false := by rfl) :
    PDI G E X tg (.Call (.Name "range" p) [a, b, c] [] pos) (miR3n w) :=
  PI.weak (pi_range3 hg hm ha hs hpl) fun σ H Q ⟨W, ρ, st, R, xq, rel, re, w, o⟩ =>
    ⟨W, ρ, st, _, xq, rel, re, w, ⟨fun W1 H1 ds vs st1 l1 rel1 rv w1 => by
      split at w1
      · simp only [RpL] at rv
        obtain ⟨v1, r1, rfl, h1, v2, r2, rfl, h2, v3, r3, rfl, h3, rfl⟩ := rv
        obtain rfl : v1 = V.int _ := h1
        obtain rfl : v2 = V.int _ := h2
        obtain rfl : v3 = V.int _ := h3
        obtain ⟨rfl, ⟨b1, b2, b3, b4⟩, w1⟩ := w1
        exact ⟨_, _, _, _, rfl, RgC.neg b1 b2 b3 b4, o.rt W1 H1 _ _ _ st1 l1 rel1 (it_rngn _ _) w1⟩
      · exact w1.elim, o.xq⟩⟩
/-! ## isinstance by built-in types -/
@[simp] def tyD (st : Sto) : D → Option String
  | .non => some "NoneType" | .bl _ => some "bool" | .int _ => some "int" | .str _ => some "str"
  | .lst _ => some "list" | .scr _ => some "list" | .tup _ => some "tuple"
  | .hdl k => match st[k]? with | some (.lst _) => some "list" | some (.dK _) => some "dict" | _ => none
  | .raw _ => none
  | .exc _ => none
@[simp] def dIsi : D1 := fun ds st R => match ds with
  | [x, .raw (.ty c)] => ∃ t b, tyD st x = some t ∧ kitB t c = some b ∧ R (.bl b) st
  | _ => False
theorem call_ISI : CallR X (.builtin "isinstance") (rIsi X.K) := call_isi
theorem sqT_ty {K : PySem.W.Frag} {H : Hp} {a : Addr} {vs : List V} (h : SqT K H a vs) : TyX K H (.ref a) (.type "tuple") := by
  rcases h with (h | ⟨o, h⟩) | ⟨o, its, n, h1, h2, _⟩
  · exact .base (.tup h)
  · exact .fTuple h
  · exact .kTuple h1 h2
theorem sqL_ty {K : PySem.W.Frag} {H : Hp} {a : Addr} {vs : List V} (h : SqL K H a vs) : TyX K H (.ref a) (.type "list") := by
  rcases h with (h | ⟨o, h⟩) | ⟨o, its, n, h1, h2, _⟩
  · exact .base (.lst h)
  · exact .base (.frz h)
  · exact .kList h1 h2
theorem tyD_x {W : Wd} {H : Hp} {st : Sto} {d : D} {v : V} {t : String} (rel : Rel G W H st) (rv : Rp G.K W H d v) (e : tyD st d = some t) : TyX G.K H v (.type t) := by
  cases d with
  | non => simp only [tyD] at e; cases e; simp only [Rp] at rv; subst rv; exact .base .non
  | bl b => simp only [tyD] at e; cases e; simp only [Rp] at rv; subst rv; exact .base (.bl b)
  | int b => simp only [tyD] at e; cases e; simp only [Rp] at rv; subst rv; exact .base (.int b)
  | str b => simp only [tyD] at e; cases e; simp only [Rp] at rv; subst rv; exact .base (.str b)
  | lst xs =>
    simp only [tyD] at e; cases e
    simp only [Rp] at rv
    obtain ⟨a, vs, rfl, _, _, h3, _⟩ := rv
    exact .base (.lst h3)
  | scr xs =>
    simp only [tyD] at e; cases e
    obtain ⟨a, vs, rfl, h3, _⟩ := scr_sq rv
    exact sqL_ty h3
  | tup xs =>
    simp only [tyD] at e; cases e
    obtain ⟨a, vs, rfl, h3, _⟩ := tup_sq rv
    exact sqT_ty h3
  | hdl k =>
    simp only [Rp] at rv
    obtain ⟨a, h1, rfl⟩ := rv
    simp only [tyD] at e
    split at e
    · rename_i xs q
      cases e
      obtain ⟨b, h2, vs, h3, _⟩ := rel.cell _ _ q
      rw [h1] at h2; cases h2
      exact .base (.lst h3)
    · rename_i xs q
      cases e
      obtain ⟨b, h2, vs, h3, _⟩ := rel.cell _ _ q
      rw [h1] at h2; cases h2
      exact .base (.dK h3)
    · cases e
  | raw u => simp [tyD] at e
  | exc u => simp [tyD] at e
theorem cd_isi (hK : G.K = X.K) : CaD G (rIsi X.K) dIsi := by
  intro E W H st ds vs R xq Q rel rs w o
  rw [← hK]
  unfold dIsi at w
  split at w
  · rename_i x c
    obtain ⟨t, b, h1, h2, w⟩ := w
    obtain ⟨v, u, rfl, rv, ru⟩ := rpl2 rs
    obtain rfl : u = V.ty c := ru
    exact ⟨v, .ty c, .type t, .type c, b, rfl, .ty c, tyD_x rel rv h1, kit_ty h2, o.rt W H (.bl b) _ st Le.refl rel rfl w⟩
  · cases w
theorem pd_ty {x : Str} {n : String} {pos : Pos} (hm : X.mg x = none) (hv : bootBuiltins x = some (.type n)) (hg : Gl X x := by rfl) (hn : x ≠ "__name__" := by decide) (hd : (x == ("__debug__" : Str)) = false := by decide) : PDE G E X (.Name x pos) (mC (.raw (.ty n))) :=
  pd_c (pe_bltn hg hm hv (v := .ty n) rfl hn hd) fun _ _ => rfl
/-! ## len(set(xs)) of numbers -/
theorem len_firstMet (ns : List Int) : True := trivial
def setLen (ns : List Int) : Nat := (PyProof.Rows.firstMet (fun i => ns.getD i 0) ns.length).length
def tLenSetJ (K : PySem.W.Frag) (ta : TE) : TE := fun σ H Q => ta σ H fun x H1 => ∃ (l : Addr) (ns : List Int), x = .ref l ∧ SqL K H1 l (ns.map V.int) ∧ ns.length ≤ 4000 ∧ Q (.int (setLen ns : Nat)) H1
theorem pe_lenSetJ {a : Expr} {ta : TE} {p p2 q pos : Pos} (hg : Gl X "len") (hm : X.mg "len" = none) (hg2 : Gl X "set") (hm2 : X.mg "set" = none) (ha : PE X a ta) (hc : X.calm = true)
    (na : starEach [a] X.env = (false, eval a X.env) :: starEach [] X.env) : PE X (.Call (.Name "len" p) [.Call (.Name "set" p2) [a] [] q] [] pos) (tLenSetJ X.K ta) := by
  refine ⟨fun pins s σ H Q I h => ?_⟩
  refine Call_ (ld_blt I hg hm boot_len ?_)
  refine PyProof.Rows.callWith_builtin1 (PyProof.Rows.args_cons ?_ rfl) rfl rfl
  refine Call_ (ld_blt I hg2 hm2 boot_set ?_)
  refine PyProof.Rows.callWith_type1 (PyProof.Rows.args_cons (thn (ha.run pins s σ H _ I h) fun v s1 ⟨x, H1, I1, r1, q1⟩ => PyProof.Rows.args_nil ?_) na) na rfl
  obtain ⟨l, ns, rfl, hq, hl, q1⟩ := q1
  cases r1
  obtain ⟨its, r, pl, hz⟩ := I1.list hq
  have hlen : its.toArray.size = ns.length := by rw [List.size_toArray, ← r.length, List.length_map]
  refine call_set_list (I1.ok.hd hc) pl.isList (ns := ns) (by simpa using r.ints) (by rw [hlen]; unfold scanBound; omega) fun h' tk hS hk => ?_
  refine PyProof.Rows.args_nil ?_
  rw [hlen] at hS
  obtain ⟨o, es, ep, t, ho, hex, hd, _, _, _, hf, hn⟩ := hS
  have I2 : Inv X pins σ H1 { s1 with heap := h', toks := tk } := I1.kept fun b o e => hk b o (Heap.lt_size e) e
  have hle : (PyProof.Rows.firstMet (fun i => ns.getD i 0) ns.length).length ≤ ns.length := by
    have : ∀ i, (PyProof.Rows.firstMet (fun i => ns.getD i 0) i).length ≤ i := by
      intro i
      induction i with
      | zero => exact Nat.le_refl _
      | succ i ih =>
        rw [PyProof.Rows.firstMet_succ]
        unfold PyProof.Rows.step_dedup
        split
        · omega
        · simp only [List.length_append, List.length_singleton]; omega
    exact this _
  exact call_len_set ho hex hd hf (by rw [hn] <;> omega) ⟨.int (setLen ns : Nat), H1, I2.tok _, ⟨_, by rw [hn]; rfl⟩, q1⟩
@[simp] def mLenSet (w : ME) : ME := fun ρ st R xq => w ρ st (fun d st1 => onL st1 d fun xs => ∃ ns, allI xs = some ns ∧ ns.length ≤ 4000 ∧ R (.int (setLen ns : Nat)) st1) xq
theorem pd_lenSet {a : Expr} {w : ME} {p p2 q pos : Pos} (hm : X.mg "len" = none) (hm2 : X.mg "set" = none) (ha : PDE G E X a w) (hg : Gl X "len" := by rfl) (hg2 : Gl X "set" := by rfl) (hc : X.calm = true := by rfl) (na : starEach [a] X.env = (false, eval a X.env) :: starEach [] X.env := by rfl) (hK : G.K = X.K := by rfl) :
    PDE G E X (.Call (.Name "len" p) [.Call (.Name "set" p2) [a] [] q] [] pos) (mLenSet w) :=
  PE.weak (pe_lenSetJ hg hm hg2 hm2 ha hc na) fun σ H Q ⟨W, ρ, st, R, xq, rel, re, w, o⟩ =>
    ⟨W, ρ, st, _, xq, rel, re, w, ⟨fun W1 H1 d v st1 l1 rel1 rv w1 => by
      obtain ⟨a, vs, xs, rfl, h1, h2, ns, e, h3, w1⟩ := onL_of rel1 rv w1
      rw [← hK]
      exact ⟨a, ns, rfl, by rw [← allI_rp h2 e]; exact h1, h3, o.rt W1 H1 (.int _) _ st1 l1 rel1 rfl w1⟩, o.xq⟩⟩
end
/-! ## calls, in short -/
structure Cal (P : Program) (w : World) (G : Gm) (mg : Str → Option Value) (base : Heap) (k : Nat) (x : Str) (dsp : DSp) : Prop where
  ex : ∃ f fd ps, FnD P w G mg base CX0 k f fd ps dsp ∧ mg x = some (.ref f) ∧ PySem.W.keepIn G.K (.ref f) = true ∧ Binds G.K fd ps []
structure CalM (P : Program) (w : World) (G : Gm) (mg : Str → Option Value) (base : Heap) (k : Nat) (C : Addr) (N : List Str) (m : Str) (dsp : DSp) : Prop where
  cls : ClsD G C N
  no : m ∉ N
  ex : ∃ f fd ps, FnD P w G mg base CX0 k f fd ps dsp ∧ Meth G.K C m f ∧ Binds G.K fd ps []
structure CalI (P : Program) (w : World) (G : Gm) (mg : Str → Option Value) (base : Heap) (k : Nat) (C : Addr) (x : Str) (dsp : DSp) : Prop where
  ex : ∃ f fd ps, FnD P w G mg base CX0 k f fd ps dsp ∧ Mk G.K C f ∧ mg x = some (.ref C) ∧ Binds G.K fd ps []
section
variable {G : Gm} {E : XK} {X : Cx} {k : Nat} {dsp : DSp}
theorem pd_callC {x : Str} {p pos : Pos} {e : Expr} {es : List Expr} {w : MA} (C : Cal X.prog X.w G X.mg X.base k x dsp) (hr : Room k X.A) (ha : PDA G E X (e :: es) w) (hg : Gl X x := by rfl) (hdb : (x == ("__debug__" : Str)) = false := by decide +kernel) (he : starEach (e :: es) X.env = (false, eval e X.env) :: starEach es X.env := by rfl) (hpl : (backTo pos (starEach es X.env)).any (·.1) = false := by rfl) (hK : G.K = X.K := by rfl) :
    PDE G E X (.Call (.Name x p) (e :: es) [] pos) (mCall dsp w) := by
  obtain ⟨f, fd, ps, F, hm, hk, hb⟩ := C.ex
  exact pd_call F hm hk hb passA hr ha hg hdb he hpl hK
theorem pd_call0C {x : Str} {p pos : Pos} (C : Cal X.prog X.w G X.mg X.base k x dsp) (hr : Room k X.A) (hg : Gl X x := by rfl) (hdb : (x == ("__debug__" : Str)) = false := by decide +kernel) (hK : G.K = X.K := by rfl) :
    PDE G E X (.Call (.Name x p) [] [] pos) (mCall dsp maNil) := by
  obtain ⟨f, fd, ps, F, hm, hk, hb⟩ := C.ex
  exact pd_call0 F hm hk hb passA hr hg hdb hK
theorem pd_methC {C : Addr} {N : List Str} {m : Str} {o e : Expr} {es : List Expr} {we : ME} {wa : MA} {pos apos : Pos} {pl : Sem Bool} (c : CalM X.prog X.w G X.mg X.base k C N m dsp) (hr : Room k X.A) (ho : PDE G E X o we) (ha : PDA G E X (e :: es) wa)
    (hst : starEach (e :: es) X.env = (false, eval e X.env) :: starEach es X.env := by rfl) (hpl : (backTo pos (starEach es X.env)).any (·.1) = false := by rfl)
    (ht : eval (.Call (.Attribute o m apos) (e :: es) [] pos) X.env = (do
      let ov ← eval o X.env
      standAt apos.atName
      let (f, first) ← holding [ov] (getMethod ov m pl)
      callWith pos f first (backTo pos (starEach (e :: es) X.env)) (backToKw pos (keywordEach [] X.env))) := by rfl) (hK : G.K = X.K := by rfl) :
    PDE G E X (.Call (.Attribute o m apos) (e :: es) [] pos) (mMeth C dsp we wa) := by
  obtain ⟨f, fd, ps, F, hm, hb⟩ := c.ex
  exact pd_meth (pl := pl) c.cls c.no hm F hb passA hr ho ha hst hpl ht hK
theorem pd_meth0C {C : Addr} {N : List Str} {m : Str} {o : Expr} {we : ME} {pos apos : Pos} {pl : Sem Bool} (c : CalM X.prog X.w G X.mg X.base k C N m dsp) (hr : Room k X.A) (ho : PDE G E X o we)
    (ht : eval (.Call (.Attribute o m apos) [] [] pos) X.env = (do
      let ov ← eval o X.env
      standAt apos.atName
      let (f, first) ← holding [ov] (getMethod ov m pl)
      callWith pos f first (backTo pos (starEach [] X.env)) (backToKw pos (keywordEach [] X.env))) := by rfl) (hK : G.K = X.K := by rfl) :
    PDE G E X (.Call (.Attribute o m apos) [] [] pos) (mMeth0 C dsp we) := by
  obtain ⟨f, fd, ps, F, hm, hb⟩ := c.ex
  exact pd_meth0 (pl := pl) c.cls c.no hm F hb passA hr ho ht hK
theorem pd_makeC {C : Addr} {x : Str} {p pos : Pos} {e : Expr} {es : List Expr} {w : MA} (c : CalI X.prog X.w G X.mg X.base k C x dsp) (hr : Room (k + 1) X.A) (ha : PDA G E X (e :: es) w) (hg : Gl X x := by rfl) (hdb : (x == ("__debug__" : Str)) = false := by decide +kernel) (he : starEach (e :: es) X.env = (false, eval e X.env) :: starEach es X.env := by rfl) (hpl : (backTo pos (starEach es X.env)).any (·.1) = false := by rfl) (hK : G.K = X.K := by rfl) :
    PDE G E X (.Call (.Name x p) (e :: es) [] pos) (mMake C dsp w) := by
  obtain ⟨f, fd, ps, F, M, hm, hb⟩ := c.ex
  exact pd_make M F hm hb passA hr ha hg hdb he hpl hK
theorem pd_make0C {C : Addr} {x : Str} {p pos : Pos} (c : CalI X.prog X.w G X.mg X.base k C x dsp) (hr : Room (k + 1) X.A) (hg : Gl X x := by rfl) (hdb : (x == ("__debug__" : Str)) = false := by decide +kernel) (hK : G.K = X.K := by rfl) :
    PDE G E X (.Call (.Name x p) [] [] pos) (mMake C dsp maNil) := by
  obtain ⟨f, fd, ps, F, M, hm, hb⟩ := c.ex
  exact pd_make0 M F hm hb passA hr hg hdb hK
end
end DL

set_option Elab.async false
set_option linter.all false
set_option maxRecDepth 100000
set_option autoImplicit false
namespace DL
open PySem PySem.Spec PyProof.Rows L2
/-! ## readings, step by step -/
section
variable {nx bk ct : DEnv → Sto → Prop} {rt : DQ} {xq : XQ} {ρ : DEnv} {st : Sto} {a b : MS} {w wa wb wc : ME} {t u : MT} {R : DQ} {Rb : Bool → Sto → Prop} {r : MA}
theorem sSeq_i (h : a ⟨fun ρ1 st1 => b ⟨nx, rt, bk, ct, xq⟩ ρ1 st1, rt, bk, ct, xq⟩ ρ st) : sSeq a b ⟨nx, rt, bk, ct, xq⟩ ρ st := h
theorem sNx_i (h : nx ρ st) : sNx ⟨nx, rt, bk, ct, xq⟩ ρ st := h
theorem sBk_i (h : bk ρ st) : sBk ⟨nx, rt, bk, ct, xq⟩ ρ st := h
theorem sCt_i (h : ct ρ st) : sCt ⟨nx, rt, bk, ct, xq⟩ ρ st := h
theorem sRt_i (h : w ρ st rt xq) : sRt w ⟨nx, rt, bk, ct, xq⟩ ρ st := h
theorem sRtN_i (h : rt .non st) : sRtN ⟨nx, rt, bk, ct, xq⟩ ρ st := h
theorem sEx_i (h : w ρ st (fun _ st1 => nx ρ st1) xq) : sEx w ⟨nx, rt, bk, ct, xq⟩ ρ st := h
theorem sIf_i (h : t ρ st (fun c st1 => if c = true then a ⟨nx, rt, bk, ct, xq⟩ ρ st1 else b ⟨nx, rt, bk, ct, xq⟩ ρ st1) xq) : sIf t a b ⟨nx, rt, bk, ct, xq⟩ ρ st := h
theorem sAs_i {g : MG} (h : w ρ st (fun d st1 => g d ρ st1 nx xq) xq) : sAs w g ⟨nx, rt, bk, ct, xq⟩ ρ st := h
theorem sAug_i {i : Nat} {g : Int → Int → Int} {d : D} (e : ρ[i]? = some (some d)) (h : w ρ st (fun y st1 => onI d fun a => onI y fun b => nx (ρ.set i (some (.int (g a b)))) st1) xq) : sAug i g w ⟨nx, rt, bk, ct, xq⟩ ρ st := by
  show (match ρ[i]? with | some (some d) => _ | _ => False); rw [e]; exact h
theorem sSetFld_i {C : Addr} {n : Nat} {we wv : ME} (h : wv ρ st (fun y st1 => we ρ st1 (fun x st2 => onO st2 x C fun j fs => fs.length < 1000 ∧ nx ρ (st2.set j (.ins C (putN n y fs)))) xq) xq) : sSetFld C n we wv ⟨nx, rt, bk, ct, xq⟩ ρ st := h
theorem sAugFld_i {C : Addr} {n : Nat} {g : Int → Int → Int} {we wv : ME} (h : we ρ st (fun x st1 => onO st1 x C fun _ fs => ∃ d, fldN fs n = some d ∧ wv ρ st1 (fun y st2 => onI d fun i => onI y fun j => onO st2 x C fun k fs' => fs'.length < 1000 ∧ nx ρ (st2.set k (.ins C (putN n (.int (g i j)) fs')))) xq) xq) : sAugFld C n g we wv ⟨nx, rt, bk, ct, xq⟩ ρ st := h
theorem sFor_i {wi : MI} {g : MG} (h : wi ρ st (fun xs inv st1 => forD inv g b ⟨nx, rt, bk, ct, xq⟩ xs ρ st1) xq) : sFor wi g b ⟨nx, rt, bk, ct, xq⟩ ρ st := h
theorem gNm_i {i : Nat} {d : D} {k : DEnv → Sto → Prop} {ρ' : DEnv} (e : ρ.set i (some d) = ρ') (h : k ρ' st) : gNm i d ρ st k xq := by subst e; exact h
theorem gTp_i {n : Nat} {ds : List D} {g : MGs} {k : DEnv → Sto → Prop} (e : ds.length = n) (h : g ds ρ st k xq) : gTp n g (.tup ds) ρ st k xq := ⟨e, h⟩
theorem gsCons_i {g : MG} {r : MGs} {d : D} {ds : List D} {k : DEnv → Sto → Prop} (h : g d ρ st (fun ρ1 st1 => r ds ρ1 st1 k xq) xq) : gsCons g r (d :: ds) ρ st k xq := h
theorem gsNil_i {k : DEnv → Sto → Prop} (h : k ρ st) : gsNil [] ρ st k xq := ⟨rfl, h⟩
theorem gSb_i {d : D} {k : DEnv → Sto → Prop} (h : wa ρ st (fun o st1 => wb ρ st1 (fun i st2 => dSet o i d st2 (k ρ)) xq) xq) : gSb wa wb d ρ st k xq := h
theorem mVar_i {i : Nat} {d : D} (e : ρ[i]? = some (some d)) (h : R d st) : mVar i ρ st R xq := by
  show (match ρ[i]? with | some (some d) => _ | _ => False); rw [e]; exact h
theorem mC_i {d : D} (h : R d st) : mC d ρ st R xq := h
theorem mOp_i {r' : D2} (h : wa ρ st (fun x st1 => wb ρ st1 (fun y st2 => r' x y st2 R) xq) xq) : mOp r' wa wb ρ st R xq := h
theorem mUn_i {r' : D → Sto → DQ → Prop} (h : wa ρ st (fun x st1 => r' x st1 R) xq) : mUn r' wa ρ st R xq := h
theorem mTest_i (h : w ρ st (fun d st' => onB d fun b => Rb b st') xq) : mTest w ρ st Rb xq := h
theorem mAnd_i (h : t ρ st (fun c st1 => if c = true then u ρ st1 Rb xq else Rb false st1) xq) : mAnd t u ρ st Rb xq := h
theorem mOr_i (h : t ρ st (fun c st1 => if c = true then Rb true st1 else u ρ st1 Rb xq) xq) : mOr t u ρ st Rb xq := h
theorem mNot_i (h : t ρ st (fun c st1 => Rb (!c) st1) xq) : mNot t ρ st Rb xq := h
theorem mAndV_i (h : wa ρ st (fun d st1 => onB d fun c => if c = true then wb ρ st1 R xq else R (.bl false) st1) xq) : mAndV wa wb ρ st R xq := h
theorem mOrV_i (h : wa ρ st (fun d st1 => onB d fun c => if c = true then R (.bl true) st1 else wb ρ st1 R xq) xq) : mOrV wa wb ρ st R xq := h
theorem mNotV_i (h : wa ρ st (fun d st1 => onB d fun c => R (.bl (!c)) st1) xq) : mNotV wa ρ st R xq := h
theorem mIf_i (h : t ρ st (fun c st1 => if c = true then wa ρ st1 R xq else wb ρ st1 R xq) xq) : mIf t wa wb ρ st R xq := h
theorem mYes_i (h : Rb true st) : mYes ρ st Rb xq := h
theorem onI_i {i : Int} {k : Int → Prop} (h : k i) : onI (.int i) k := h
theorem onB_i {i : Bool} {k : Bool → Prop} (h : k i) : onB (.bl i) k := h
theorem onS_i {i : Str} {k : Str → Prop} (h : k i) : onS (.str i) k := h
theorem maNil_i {k : List D → Sto → Prop} (h : k [] st) : maNil ρ st k xq := h
theorem maCons_i {k : List D → Sto → Prop} (h : w ρ st (fun x st1 => r ρ st1 (fun xs st2 => k (x :: xs) st2) xq) xq) : maCons w r ρ st k xq := h
theorem szN {n : Nat} (h : Nat.ble n sizeLine = true) : n ≤ sizeLine := Nat.le_of_ble_eq_true h
theorem mLst_i (h : r ρ st (fun xs st1 => xs.length ≤ sizeLine ∧ R (.lst xs) st1) xq) : mLst r ρ st R xq := h
theorem mTup_i (h : r ρ st (fun xs st1 => xs.length ≤ sizeLine ∧ R (.tup xs) st1) xq) : mTup r ρ st R xq := h
theorem mLstH_i (h : r ρ st (fun xs st1 => xs.length ≤ sizeLine ∧ R (.hdl st1.length) (st1 ++ [.lst xs])) xq) : mLstH r ρ st R xq := h
theorem mDic_i (h : R (.hdl st.length) (st ++ [.dK []])) : mDic ρ st R xq := h
theorem mCa_i {d : D1} (h : r ρ st (fun ds st1 => d ds st1 R) xq) : mCa d r ρ st R xq := h
theorem mCall_i {s : DSp} (h : r ρ st (fun ds st1 => s ds st1 R xq) xq) : mCall s r ρ st R xq := h
theorem mMeth_i {C : Addr} {s : DSp} (h : w ρ st (fun x st1 => (onO st1 x C fun _ _ => True) ∧ r ρ st1 (fun ds st2 => s (x :: ds) st2 R xq) xq) xq) : mMeth C s w r ρ st R xq := h
theorem mMeth0_i {C : Addr} {s : DSp} (h : w ρ st (fun x st1 => (onO st1 x C fun _ _ => True) ∧ s [x] st1 R xq) xq) : mMeth0 C s w ρ st R xq := h
theorem mMake_i {C : Addr} {s : DSp} (h : r ρ st (fun ds st1 => s (.hdl st1.length :: ds) (st1 ++ [.ins C []]) (fun d st2 => d = .non ∧ R (.hdl st1.length) st2) xq) xq) : mMake C s r ρ st R xq := h
theorem mFld_i {C : Addr} {n : Nat} (h : w ρ st (fun x st1 => onO st1 x C fun _ fs => ∃ d, fldN fs n = some d ∧ R d st1) xq) : mFld C n w ρ st R xq := h
theorem mMe_i {d : DM} (h : w ρ st (fun x st1 => isLD st1 x ∧ r ρ st1 (fun xs st2 => d x xs st2 R) xq) xq) : mMe d w r ρ st R xq := h
theorem mMe0_i {d : DM} (h : w ρ st (fun x st1 => isLD st1 x ∧ d x [] st1 R) xq) : mMe0 d w ρ st R xq := h
theorem mGet1_i (h : wa ρ st (fun x st1 => isKD st1 x ∧ wb ρ st1 (fun k st2 => onK st2 x fun _ kvs => ∃ key, toK k = some key ∧ R ((valD kvs key).getD .non) st2) xq) xq) : mGet1 wa wb ρ st R xq := h
theorem mGet2_i (h : wa ρ st (fun x st1 => isKD st1 x ∧ wb ρ st1 (fun k st2 => wc ρ st2 (fun z st3 => onK st3 x fun _ kvs => ∃ key, toK k = some key ∧ R ((valD kvs key).getD z) st3) xq) xq) xq) : mGet2 wa wb wc ρ st R xq := h
theorem mSetd_i (h : wa ρ st (fun x st1 => isKD st1 x ∧ wb ρ st1 (fun k st2 => wc ρ st2 (fun z st3 => onK st3 x fun j kvs => kvs.length < sizeLine ∧ ∃ key, toK k = some key ∧ (match valD kvs key with | some d => R d st3 | none => R z (st3.set j (.dK (putD kvs key z))))) xq) xq) xq) : mSetd wa wb wc ρ st R xq := h
theorem mDPop1_i (h : wa ρ st (fun x st1 => isKD st1 x ∧ wb ρ st1 (fun k st2 => onK st2 x fun j kvs => ∃ key d, toK k = some key ∧ valD kvs key = some d ∧ R d (st2.set j (.dK (dropD kvs key)))) xq) xq) : mDPop1 wa wb ρ st R xq := h
theorem mSl_i {wl wh : MO} (h : w ρ st (fun x st1 => wl ρ st1 (fun lo st2 => wh ρ st2 (fun hi st3 => dSl x lo hi st3 R) xq) xq) xq) : mSl w wl wh ρ st R xq := h
theorem mSlH_i {wl wh : MO} (h : w ρ st (fun x st1 => wl ρ st1 (fun lo st2 => wh ρ st2 (fun hi st3 => dSlH x lo hi st3 R) xq) xq) xq) : mSlH w wl wh ρ st R xq := h
theorem mSlStep_i (h : mOp dStep wa wb ρ st R xq) : mSlStep wa wb ρ st R xq := h
theorem moNone_i {k : Option Int → Sto → Prop} (h : k none st) : moNone ρ st k xq := h
theorem moSome_i {k : Option Int → Sto → Prop} (h : w ρ st (fun d st1 => onI d fun i => k (some i) st1) xq) : moSome w ρ st k xq := h
theorem mLenSet_i (h : w ρ st (fun d st1 => onL st1 d fun xs => ∃ ns, allI xs = some ns ∧ ns.length ≤ 4000 ∧ R (.int (setLen ns : Nat)) st1) xq) : mLenSet w ρ st R xq := h
theorem mLc_i {wi : MI} {g : Tgt} {vs : List Nat} (h : wi ρ st (fun xs inv st1 => lcD inv g t w (wipeD ρ vs) (fun acc st2 => R (.lst acc) st2) xs [] st1) xq) : mLc wi g t w vs ρ st R xq := h
theorem mLcH_i {wi : MI} {g : Tgt} {vs : List Nat} (h : wi ρ st (fun xs inv st1 => lcD inv g t w (wipeD ρ vs) (fun acc st2 => R (.hdl st2.length) (st2 ++ [.lst acc])) xs [] st1) xq) : mLcH wi g t w vs ρ st R xq := h
theorem miSeq_i {k : List D → (Sto → Prop) → Sto → Prop} (h : w ρ st (fun d st1 => dIt d st1 k) xq) : miSeq w ρ st k xq := h
theorem miR1_i {k : List D → (Sto → Prop) → Sto → Prop} (h : r ρ st (fun ds st1 => match ds with | [.int j] => -(2 ^ 62) ≤ j ∧ j < 2 ^ 62 ∧ k (rngD 0 j.toNat) noInv st1 | _ => False) xq) : miR1 r ρ st k xq := h
theorem miR2_i {k : List D → (Sto → Prop) → Sto → Prop} (h : r ρ st (fun ds st1 => match ds with | [.int i, .int j] => (-(2 ^ 62) ≤ i ∧ i < 2 ^ 62 ∧ -(2 ^ 62) ≤ j ∧ j < 2 ^ 62) ∧ k (rngD i (j - i).toNat) noInv st1 | _ => False) xq) : miR2 r ρ st k xq := h
theorem miR3n_i {k : List D → (Sto → Prop) → Sto → Prop} (h : r ρ st (fun ds st1 => match ds with | [.int i, .int j, .int c] => c = -1 ∧ (-(2 ^ 62) ≤ i ∧ i < 2 ^ 62 ∧ -(2 ^ 62) ≤ j ∧ j < 2 ^ 62) ∧ k (rngDn i (i - j).toNat) noInv st1 | _ => False) xq) : miR3n r ρ st k xq := h
theorem dIt_l {xs : List D} {k : List D → (Sto → Prop) → Sto → Prop} (h : k xs noInv st) : dIt (.lst xs) st k := h
theorem dIt_s {xs : List D} {k : List D → (Sto → Prop) → Sto → Prop} (h : k xs noInv st) : dIt (.scr xs) st k := h
theorem dIt_t {xs : List D} {k : List D → (Sto → Prop) → Sto → Prop} (h : k xs noInv st) : dIt (.tup xs) st k := h
theorem dIt_h {j : Nat} {xs : List D} {k : List D → (Sto → Prop) → Sto → Prop} (e : st[j]? = some (.lst xs)) (h : k xs (fun st' => st'[j]? = some (.lst xs)) st) : dIt (.hdl j) st k := by rw [dIt_hdl e]; exact h
/-! ### values -/
theorem dII_i {C : Int → Int → Prop} {g : Int → Int → D} {i j : Int} (c : C i j) (h : R (g i j) st) : dII C g (.int i) (.int j) st R := ⟨c, h⟩
theorem dII0_i {g : Int → Int → D} {i j : Int} (h : R (g i j) st) : dII0 g (.int i) (.int j) st R := h
theorem dAdd_i {i j : Int} (h : R (.int (i + j)) st) : dAdd (.int i) (.int j) st R := h
theorem dAdd_l {x y : D} {xs ys : List D} (e1 : dr st x = .lst xs) (e2 : dr st y = .lst ys) (hl : xs.length + ys.length ≤ sizeLine) (h : R (.lst (xs ++ ys)) st) : dAdd x y st R := by
  unfold dAdd; rw [e1, e2]; exact ⟨hl, h⟩
theorem dAddH_l {x y : D} {xs ys : List D} (e1 : dr st x = .lst xs) (e2 : dr st y = .lst ys) (hl : xs.length + ys.length ≤ sizeLine) (h : R (.hdl st.length) (st ++ [.lst (xs ++ ys)])) : dAddH x y st R := by
  unfold dAddH; rw [e1, e2]; exact ⟨hl, h⟩
theorem dMul_i {i j : Int} (c : CMulX i j) (h : R (.int (i * j)) st) : dMul (.int i) (.int j) st R := ⟨c, h⟩
theorem dNeg_i {i : Int} (h : R (.int (-i)) st) : dNeg (.int i) st R := h
theorem dEQ_i {n : Bool} {i j : Int} (h : R (.bl (xorB n (decide (i = j)))) st) : dEQ n (.int i) (.int j) st R := h
theorem dEQ_b {n : Bool} {i j : Bool} (h : R (.bl (xorB n (decide (i = j)))) st) : dEQ n (.bl i) (.bl j) st R := h
theorem dIsN_i {x : D} (h : R (.bl (isNon x)) st) : dIsN x .non st R := h
theorem dNotN_i {x : D} (h : R (.bl (!isNon x)) st) : dNotN x .non st R := h
theorem dIx_h {j : Nat} {xs : List D} {i : Int} {d : D} (e : st[j]? = some (.lst xs)) (q : atI xs i = some d) (h : R d st) : dIx (.hdl j) (.int i) st R := by
  unfold dIx; rw [dr_hdl e]; exact ⟨d, q, h⟩
theorem dIx_l {xs : List D} {i : Int} {d : D} (q : atI xs i = some d) (h : R d st) : dIx (.lst xs) (.int i) st R := ⟨d, q, h⟩
theorem dIx_s {xs : List D} {i : Int} {d : D} (q : atI xs i = some d) (h : R d st) : dIx (.scr xs) (.int i) st R := ⟨d, q, h⟩
theorem dIx_t {xs : List D} {i : Int} {d : D} (q : atI xs i = some d) (h : R d st) : dIx (.tup xs) (.int i) st R := ⟨d, q, h⟩
theorem dSet_l {j : Nat} {xs : List D} {n : Int} {m : Nat} {v : D} {k : Sto → Prop} (e : st[j]? = some (.lst xs)) (q : ixN xs.length n = some m) (h : k (st.set j (.lst (xs.set m v)))) : dSet (.hdl j) (.int n) v st k := by
  simp only [dSet, e, onI]; exact ⟨m, q, h⟩
theorem dSet_k {j : Nat} {kvs : List (Key × D)} {i v : D} {key : Key} {k : Sto → Prop} (e : st[j]? = some (.dK kvs)) (hl : kvs.length < sizeLine) (q : toK i = some key) (h : k (st.set j (.dK (putD kvs key v)))) : dSet (.hdl j) i v st k := by
  simp only [dSet, e]; exact ⟨hl, key, q, h⟩
theorem dLen_q {d : D} {xs : List D} (e : dr st d = .lst xs ∨ dr st d = .scr xs ∨ dr st d = .tup xs) (h : R (.int xs.length) st) : dLen [d] st R := by
  unfold dLen
  rcases e with e | e | e <;> (simp only [e]; exact h)
theorem dLen_l {xs : List D} (h : R (.int xs.length) st) : dLen [.lst xs] st R := h
theorem dLen_s {xs : List D} (h : R (.int xs.length) st) : dLen [.scr xs] st R := h
theorem dLen_t {xs : List D} (h : R (.int xs.length) st) : dLen [.tup xs] st R := h
theorem dLen_h {j : Nat} {xs : List D} (e : st[j]? = some (.lst xs)) (h : R (.int xs.length) st) : dLen [.hdl j] st R := dLen_q (.inl (dr_hdl e)) h
theorem isLD_h {j : Nat} {xs : List D} (e : st[j]? = some (.lst xs)) : isLD st (.hdl j) := by unfold isLD; rw [onL_hdl e]; trivial
theorem isKD_h {j : Nat} {xs : List (Key × D)} (e : st[j]? = some (.dK xs)) : isKD st (.hdl j) := by unfold isKD; rw [onK_hdl e]; trivial
theorem onO_h {j : Nat} {C : Addr} {fs : List (Nat × D)} {k : Nat → List (Nat × D) → Prop} (e : st[j]? = some (.ins C fs)) (h : k j fs) : onO st (.hdl j) C k := by rw [onO_hdl e]; exact h
theorem onK_h {j : Nat} {kvs : List (Key × D)} {k : Nat → List (Key × D) → Prop} (e : st[j]? = some (.dK kvs)) (h : k j kvs) : onK st (.hdl j) k := by rw [onK_hdl e]; exact h
theorem dApp_h {j : Nat} {xs : List D} {y : D} (e : st[j]? = some (.lst xs)) (hl : xs.length < sizeLine) (h : R .non (st.set j (.lst (xs ++ [y])))) : dApp (.hdl j) [y] st R := by
  simp only [dApp, onH_hdl e]; exact ⟨hl, h⟩
theorem dPopAt_h {j : Nat} {xs : List D} {i : Int} {k : Nat} {d : D} (e : st[j]? = some (.lst xs)) (q : seqIndex? i xs.length = some k) (q2 : xs[k]? = some d) (b1 : -(2 ^ 63) ≤ i) (b2 : i < 2 ^ 63) (h : R d (st.set j (.lst (xs.eraseIdx k)))) : dPopAt (.hdl j) [.int i] st R := by
  simp only [dPopAt, onH_hdl e]; exact ⟨k, d, q, q2, b1, b2, h⟩
theorem dIns_h {j : Nat} {xs : List D} {i : Int} {y : D} (e : st[j]? = some (.lst xs)) (hl : xs.length < sizeLine) (b1 : 0 ≤ i) (b2 : i < 2 ^ 63) (h : R .non (st.set j (.lst (xs.take i.toNat ++ [y] ++ xs.drop i.toNat)))) : dIns (.hdl j) [.int i, y] st R := by
  simp only [dIns, onH_hdl e]; exact ⟨hl, b1, b2, h⟩
theorem dInt_i {i : Int} (h : R (.int i) st) : dInt [.int i] st R := h
theorem dInt_b {i : Bool} (h : R (.int (if i then 1 else 0)) st) : dInt [.bl i] st R := h
theorem dII1_i {g : Int → Int → D} {i j : Int} (h : R (g i j) st) : dII1 g [.int i, .int j] st R := h
theorem dList_l {xs : List D} (h : R (.lst xs) st) : dList [.lst xs] st R := h
theorem dList_s {xs : List D} (h : R (.lst xs) st) : dList [.scr xs] st R := h
theorem dList_t {xs : List D} (h : R (.lst xs) st) : dList [.tup xs] st R := h
theorem dList_h {j : Nat} {xs : List D} (e : st[j]? = some (.lst xs)) (h : R (.lst xs) st) : dList [.hdl j] st R := by
  simp only [dList, dListH, dTuple, onQ_hdl e]; exact h
theorem dListH_l {xs : List D} (h : R (.hdl st.length) (st ++ [.lst xs])) : dListH [.lst xs] st R := h
theorem dListH_s {xs : List D} (h : R (.hdl st.length) (st ++ [.lst xs])) : dListH [.scr xs] st R := h
theorem dListH_t {xs : List D} (h : R (.hdl st.length) (st ++ [.lst xs])) : dListH [.tup xs] st R := h
theorem dListH_h {j : Nat} {xs : List D} (e : st[j]? = some (.lst xs)) (h : R (.hdl st.length) (st ++ [.lst xs])) : dListH [.hdl j] st R := by
  simp only [dList, dListH, dTuple, onQ_hdl e]; exact h
theorem dTuple_l {xs : List D} (h : R (.tup xs) st) : dTuple [.lst xs] st R := h
theorem dTuple_t {xs : List D} (h : R (.tup xs) st) : dTuple [.tup xs] st R := h
theorem dTuple_h {j : Nat} {xs : List D} (e : st[j]? = some (.lst xs)) (h : R (.tup xs) st) : dTuple [.hdl j] st R := by
  simp only [dList, dListH, dTuple, onQ_hdl e]; exact h
theorem dAll_l {bs : List Bool} (h : R (.bl (bs.all id)) st) : dAll [.lst (bs.map D.bl)] st R := ⟨bs, allB_bls bs, h⟩
theorem dDict_h {j : Nat} {kvs : List (Key × D)} (e : st[j]? = some (.dK kvs)) (h : R (.hdl st.length) (st ++ [.dK kvs])) : dDict [.hdl j] st R := by
  simp only [dDict, onK_hdl e]; exact h
theorem dIsB_b {a b : Bool} (h : R (.bl (decide (a = b))) st) : dIsB (.bl a) (.bl b) st R := h
theorem dIsB_n {b : Bool} (h : R (.bl false) st) : dIsB .non (.bl b) st R := h
theorem dNotB_b {a b : Bool} (h : R (.bl (!decide (a = b))) st) : dNotB (.bl a) (.bl b) st R := h
theorem dNotB_n {b : Bool} (h : R (.bl true) st) : dNotB .non (.bl b) st R := h
theorem ifT {A B : Prop} {c : Bool} (e : c = true) (h : A) : if c = true then A else B := by rw [if_pos e]; exact h
theorem ifF {A B : Prop} {c : Bool} (e : c = false) (h : B) : if c = true then A else B := by rw [if_neg (by rw [e]; decide)]; exact h
theorem ifD {A B : Prop} {c : Prop} [Decidable c] (h1 : c → A) (h2 : ¬ c → B) : if decide c = true then A else B := by
  by_cases h : c
  · rw [if_pos (decide_eq_true h)]; exact h1 h
  · rw [if_neg (by simp [h])]; exact h2 h
theorem ifB {A B : Prop} {c : Bool} (h1 : c = true → A) (h2 : c = false → B) : if c = true then A else B := by
  cases c
  · exact h2 rfl
  · exact h1 rfl
theorem tnm_i {i : Nat} {d : D} {k : DEnv → Prop} {ρ' : DEnv} (e : ρ.set i (some d) = ρ') (h : k ρ') : Tgt.run (.nm i) d ρ k := by subst e; exact h
theorem ttp_i {ts : List Tgt} {ds : List D} {k : DEnv → Prop} (e : ds.length = ts.length) (h : Tgt.runs ts ds ρ k) : Tgt.run (.tp ts) (.tup ds) ρ k := ⟨e, h⟩
theorem ttn_i {k : DEnv → Prop} (h : k ρ) : Tgt.runs [] [] ρ k := ⟨rfl, h⟩
theorem ttc_i {t : Tgt} {ts : List Tgt} {d : D} {ds : List D} {k : DEnv → Prop} (h : Tgt.run t d ρ fun ρ1 => Tgt.runs ts ds ρ1 k) : Tgt.runs (t :: ts) (d :: ds) ρ k := h
theorem dIt_dr {d : D} {xs : List D} {k : List D → (Sto → Prop) → Sto → Prop} (e : dr st d = .lst xs) (h : ∀ inv : Sto → Prop, (∀ st', dr st' d = .lst xs → inv st') → k xs inv st) : dIt d st k := by
  cases d with
  | lst ys => cases e; exact dIt_l (h _ fun _ _ => trivial)
  | hdl j =>
    have e' : st[j]? = some (.lst xs) := by
      simp only [dr] at e
      split at e
      · rename_i q; cases e; exact q
      · cases e
    refine dIt_h e' (h _ fun st' q => ?_)
    simp only [dr] at q
    split at q
    · rename_i q'; cases q; exact q'
    · cases q
  | non => cases e
  | bl _ => cases e
  | int _ => cases e
  | str _ => cases e
  | tup _ => cases e
  | scr _ => cases e
  | raw _ => cases e
  | exc _ => cases e
theorem dListH_q {d : D} {xs : List D} (e : dr st d = .lst xs) (h : R (.hdl st.length) (st ++ [.lst xs])) : dListH [d] st R := by
  simp only [dListH, onQ, e]; exact h
theorem dList_q {d : D} {xs : List D} (e : dr st d = .lst xs) (h : R (.lst xs) st) : dList [d] st R := by
  simp only [dList, onQ, e]; exact h
end
/-! ### loops by what is left -/
theorem forD_ind {inv : Sto → Prop} {g : MG} {b : MS} {e : DEnds} (P : List D → DEnv → Sto → Prop) (hnil : ∀ ρ st, P [] ρ st → inv st ∧ e.nx ρ st)
    (hcons : ∀ x xs ρ st (K : DEnv → Sto → Prop), P (x :: xs) ρ st → (∀ ρ' st', P xs ρ' st' → K ρ' st') → inv st ∧ g x ρ st (fun ρ1 st1 => b ⟨K, e.rt, e.nx, K, e.xq⟩ ρ1 st1) e.xq) : ∀ xs ρ st, P xs ρ st → forD inv g b e xs ρ st
  | [], ρ, st, h => hnil ρ st h
  | x :: xs, ρ, st, h => hcons x xs ρ st (forD inv g b e xs) h (forD_ind P hnil hcons xs)
theorem lcD_ind {inv : Sto → Prop} {g : Tgt} {tt : MT} {te : ME} {ρ : DEnv} {R : List D → Sto → Prop} (P : List D → List D → Sto → Prop) (hnil : ∀ acc st, P [] acc st → inv st ∧ R acc st)
    (hcons : ∀ x xs acc st (K : List D → Sto → Prop), P (x :: xs) acc st → (∀ acc' st', P xs acc' st' → K acc' st') → inv st ∧ g.run x ρ fun ρ1 => tt ρ1 st (fun c st1 => if c = true then te ρ1 st1 (fun d st2 => acc.length < sizeLine ∧ K (acc ++ [d]) st2) noX else K acc st1) noX) :
    ∀ xs acc st, P xs acc st → lcD inv g tt te ρ R xs acc st
  | [], acc, st, h => hnil acc st h
  | x :: xs, acc, st, h => hcons x xs acc st (lcD inv g tt te ρ R xs) h (lcD_ind P hnil hcons xs)
end DL

set_option Elab.async false
set_option linter.all false
set_option maxRecDepth 100000
set_option autoImplicit false
namespace DL
open PySem PySem.Spec PyProof.Rows L2

/-! ## a starred target -/
/-- what a starred target makes of the items -/
def starV {α : Type} (n k : Nat) (xs : List α) (mid : List α → α) : List α := xs.take k ++ [mid ((xs.drop k).take (xs.length + 1 - n))] ++ (xs.drop k).drop (xs.length + 1 - n)
theorem unpk_star {P : Program} {w : World} {A : Around} {E : Value → Shared → Prop} {s : Shared} {a : Addr} {its : Array Value} {n k : Nat} {Q : List Value → Shared → Prop}
    (hh : A.handled = none) (hk : k < n) (hn : n ≤ its.size + 1) (hz : its.size ≤ sizeLine) (hl : s.heap.IsList a its ∨ IsTup s.heap a its)
    (q : ∀ (h2 : Heap) (tk : Nat), (∀ b o, s.heap.get? b = some o → h2.get? b = some o) →
      Q (its.toList.take k ++ [.ref h2.objs.size] ++ (its.toList.drop k).drop (its.size + 1 - n)) { s with heap := h2.push { cls := .type "list", data := .seq ((its.toList.drop k).take (its.size + 1 - n)).toArray }, toks := tk }) :
    wpAny (model P w) A (unpackItems (.ref a) n (some k)) Q E s := by
  have fl : (its.toList.take k).length = k := by rw [List.length_take, Array.length_toList]; omega
  have rl : (its.toList.drop k).length = its.size - k := by rw [List.length_drop, Array.length_toList]
  have rm : (its.toList.drop k).length - (n - 1 - k) = its.size + 1 - n := by rw [rl]; omega
  have last : ∀ (h2 : Heap) (tk : Nat), (∀ b o, s.heap.get? b = some o → h2.get? b = some o) → wpAny (model P w) A (newList ((its.toList.drop k).take ((its.toList.drop k).length - (n - 1 - k))) >>= fun d => pure (its.toList.take k ++ [d] ++ (its.toList.drop k).drop ((its.toList.drop k).length - (n - 1 - k)))) Q E { s with heap := h2, toks := tk } := by
    intro h2 tk kp
    rw [rm]
    exact wpAny_bind (wpAny_newList (wpAny_pure (q h2 tk kp)) (by rw [List.length_take, rl]; omega))
  rcases hl with hl | hl
  · have ne : a ≠ s.heap.objs.size := by obtain ⟨o, ho, _⟩ := hl; exact Nat.ne_of_lt (Heap.lt_size ho)
    unfold unpackItems
    refine wpAny_bind ?_; unfold notIterableAtAll; refine wpAny_bind (wpAny_specialOf hl.typeIs slot_list_iter.lookup (wpAny_pure ?_)); simp only [Bool.false_eq_true, if_false]; refine wpAny_bind (wpAny_holding (wpAny_pyIter_list hl ?_)); refine wpAny_bind (wpAny_holding (PySem.W.kun_draw ne k 0 _ _ ⟨_, Heap.get?_push_size _ rfl, rfl, rfl⟩ (hl.push _) (by omega) fun h1 it1 sb1 => ?_))
    rw [Nat.zero_add] at it1
    have hl1 : h1.IsList a its := (hl.push _).extBut sb1.extBut ne
    have it2 := it1
    obtain ⟨oi, ei, _⟩ := it2
    have hl2 := hl1
    obtain ⟨ol, el, _⟩ := hl2
    rw [List.drop_zero, if_neg (by rw [fl]; omega)]
    refine wpAny_bind (wpAny_holding (PySem.W.kun_collect (s := { s with heap := h1 }) (T := "list_iterator") (.inr (.inr (.inl rfl))) (Walks.list (A := A.in1) hh s.heap.objs.size a ne its) (fun j u st => st.1.typeIs) (k := k) (by omega) ⟨it1, hl1⟩ (Heap.lt_size ei) (Heap.lt_size el) (fun h2 tk kp => ?_) hz))
    show wpAny _ _ (if (its.toList.drop k).length < n - 1 - k then _ else _) _ _ _
    rw [if_neg (by rw [rl]; omega)]
    exact last h2 tk fun b o e => kp b o (Nat.ne_of_lt (Heap.lt_size e)) (sb1.extBut b o (Nat.ne_of_lt (Heap.lt_size e)) (Heap.get?_push_of_some _ e))
  · have ne : a ≠ s.heap.objs.size := by obtain ⟨o, ho, _⟩ := hl; exact Nat.ne_of_lt (Heap.lt_size ho)
    unfold unpackItems
    refine wpAny_bind ?_; unfold notIterableAtAll; refine wpAny_bind (wpAny_specialOf hl.typeIs slot_tuple_iter.lookup (wpAny_pure ?_)); simp only [Bool.false_eq_true, if_false]; refine wpAny_bind (wpAny_holding (iter_tuple hl ?_)); refine wpAny_bind (wpAny_holding (draw_tuple ne k 0 _ _ ⟨_, Heap.get?_push_size _ rfl, rfl, rfl⟩ (hl.push _) (by omega) fun h1 it1 sb1 => ?_))
    rw [Nat.zero_add] at it1
    have hl1 : IsTup h1 a its := (hl.push _).extBut sb1.extBut ne
    have it2 := it1
    obtain ⟨oi, ei, _⟩ := it2
    have hl2 := hl1
    obtain ⟨ol, el, _⟩ := hl2
    rw [List.drop_zero, if_neg (by rw [fl]; omega)]
    refine wpAny_bind (wpAny_holding (PySem.W.kun_collect (s := { s with heap := h1 }) (T := "tuple_iterator") (.inr (.inr (.inr rfl))) (Walks.tuple (A := A.in1) hh s.heap.objs.size a ne its) (fun j u st => st.1.typeIs) (k := k) (by omega) ⟨it1, hl1⟩ (Heap.lt_size ei) (Heap.lt_size el) (fun h2 tk kp => ?_) hz))
    show wpAny _ _ (if (its.toList.drop k).length < n - 1 - k then _ else _) _ _ _
    rw [if_neg (by rw [rl]; omega)]
    exact last h2 tk fun b o e => kp b o (Nat.ne_of_lt (Heap.lt_size e)) (sb1.extBut b o (Nat.ne_of_lt (Heap.lt_size e)) (Heap.get?_push_of_some _ e))
theorem vals1 {v : V} {u : Value} (h : RelV v u) : Vals [v] [u] := .cons h .nil
def gTupS (K : PySem.W.Frag) (n k : Nat) (t : TGs) : TG := fun v σ H Q => ∃ a xs, v = .ref a ∧ (SqL K H a xs ∨ SqT K H a xs) ∧ n ≤ xs.length + 1 ∧
  ∀ p, H p = none → t (xs.take k ++ [.ref p] ++ (xs.drop k).drop (xs.length + 1 - n)) σ (upd H p (.lst ((xs.drop k).take (xs.length + 1 - n)))) Q
section
variable {X : Cx}
theorem vtake {vs : List V} {us : List Value} (h : Vals vs us) : ∀ n, Vals (vs.take n) (us.take n) := fun n => by
  induction h generalizing n with
  | nil => simp; exact .nil
  | cons a _ ih =>
    cases n with
    | zero => exact .nil
    | succ n => exact .cons a (ih n)
theorem pgs_consS {e : Expr} {es : List Expr} {t : TG} {u : TGs} {sp : Pos} (h1 : PG X e t) (h2 : PGs X es u)
    (hs : (assignEach (.Starred e sp :: es) X.env).map (·.2) = assign e X.env :: (assignEach es X.env).map (·.2) := by rfl) : PGs X (.Starred e sp :: es) (gCons t u) := by
  refine ⟨fun pins s σ H vs us Q I r h => ?_⟩
  obtain ⟨v, vr, rfl, h⟩ := h
  cases r with
  | cons r rr =>
    rw [hs]
    refine assignInOrder_cons (thn (h1.run pins s σ H _ _ _ I r h) fun _ s1 ⟨σ1, H1, I1, q1⟩ => h2.run pins s1 σ1 H1 _ _ Q I1 rr q1)
theorem pg_tupS {es : List Expr} {j : Nat} {t : TGs} {n k : Nat} {pos : Pos} (hc : X.calm = true) (h : PGs X es t)
    (hn : (assignEach es X.env).length = n := by rfl) (hst : (assignEach es X.env).findIdx? (·.1) = some k := by rfl) (hk : k < n := by decide) : PG X (.Tuple es j pos) (gTupS X.K n k t) := by
  refine ⟨fun pins s σ H v u Q I r hw => ?_⟩
  obtain ⟨a, xs, rfl, hq, hl, hw⟩ := hw
  cases r
  obtain ⟨its, rv, ht, hz⟩ : ∃ its : List Value, Vals xs its ∧ (s.heap.IsList a its.toArray ∨ IsTup s.heap a its.toArray) ∧ xs.length ≤ sizeLine := by
    rcases hq with hq | hq
    · obtain ⟨its, rv, p, hz⟩ := I.list hq
      exact ⟨its, rv, .inl p.isList, hz⟩
    · obtain ⟨its, rv, p, hz⟩ := I.tuple hq
      exact ⟨its, rv, .inr p, hz⟩
  have len : xs.length = its.length := rv.length
  rw [assign_Tuple]
  refine wpAny_bind (wpAny_standAt ?_)
  unfold unpack
  rw [hn, hst]
  refine wpAny_bind (wpAny_holding (unpk_star (I.ok.hd hc) hk (by simp [← len]; exact hl) (by simp [← len]; exact hz) ht fun h2 tk kp => ?_))
  have I1 : Inv X pins σ H { s with heap := h2, toks := tk } := I.kept (t' := tk) kp
  have I2 : Inv X pins σ (upd H h2.objs.size (.lst ((xs.drop k).take (xs.length + 1 - n)))) { s with heap := h2.push { cls := .type "list", data := .seq ((its.drop k).take (xs.length + 1 - n)).toArray }, toks := tk } := by
    refine I1.laid (t' := tk) (o := .lst _) (fun b ob q => Heap.get?_push_of_some _ q) (Nat.le_refl _) ⟨?_, _, 0, vtake (rv.drop k) _, Heap.get?_push_size _ rfl⟩
    rw [List.length_take, List.length_drop]; omega
  have I2' : Inv X pins σ (upd H h2.objs.size (.lst ((xs.drop k).take (xs.length + 1 - n)))) { s with heap := h2.push { cls := .type "list", data := .seq ((its.toArray.toList.drop k).take (its.toArray.size + 1 - n)).toArray }, toks := tk } := by
    have e : its.toArray.size = xs.length := by rw [len]; simp
    rw [e]; exact I2
  refine h.run pins _ σ _ _ _ Q I2' ?_ (hw _ (I1.hok.fresh (Nat.le_refl _)))
  have e : its.toArray.size = xs.length := by rw [len]; simp
  rw [e]
  exact ((vtake rv k).append (vals1 (v := .ref _) (u := .ref _) rfl)).append ((rv.drop k).drop _)
end
@[simp] def gTpS (n k : Nat) (r : MGs) : MG := fun d ρ st q xq => (∃ xs, (dr st d = .lst xs ∨ dr st d = .tup xs) ∧ n ≤ xs.length + 1 ∧ r (starV n k xs .lst) ρ st q xq)
section
variable {G : Gm} {E : XK} {X : Cx}
theorem gds_consS {e : Expr} {es : List Expr} {g : MG} {r : MGs} {sp : Pos} (h1 : PDG G E X e g) (h2 : PDGs G E X es r) (hs : (assignEach (.Starred e sp :: es) X.env).map (·.2) = assign e X.env :: (assignEach es X.env).map (·.2) := by rfl) : PDGs G E X (.Starred e sp :: es) (gsCons g r) :=
  PGs.weak (pgs_consS h1 h2 hs) fun v σ H Q ⟨W, ds, ρ, st, k, xq, rel, re, rv, w, o⟩ => by
    unfold gsCons at w
    split at w
    · simp only [RpL] at rv
      obtain ⟨v1, r1, rfl, q1, q2⟩ := rv
      exact ⟨v1, r1, rfl, W, _, ρ, st, _, xq, rel, re, q1, w, ⟨fun W1 H1 ρ1 σ1 st1 l1 rel1 re1 w1 => ⟨W1, _, ρ1, st1, k, xq, rel1, re1, q2.le l1, w1, o.le l1⟩, o.xq⟩⟩
    · cases w
theorem gd_tpS {es : List Expr} {j : Nat} {r : MGs} {n k : Nat} {pos : Pos} (h : PDGs G E X es r) (hc : X.calm = true := by rfl) (hn : (assignEach es X.env).length = n := by rfl) (hst : (assignEach es X.env).findIdx? (·.1) = some k := by rfl) (hk : k < n := by decide) (hK : G.K = X.K := by rfl) : PDG G E X (.Tuple es j pos) (gTpS n k r) :=
  PG.weak (pg_tupS hc h hn hst hk) fun v σ H Q ⟨W, d, ρ, st, q, xq, rel, re, rv, w, o⟩ => by
    obtain ⟨xs, hx, hl, w⟩ := w
    obtain ⟨a, vs, rfl, h1, h2⟩ : ∃ a vs, v = .ref a ∧ (SqL G.K H a vs ∨ SqT G.K H a vs) ∧ RpL G.K W H xs vs := by
      rcases hx with hx | hx
      · obtain ⟨a, vs, q1, q2, q3⟩ := dr_lst rel rv hx
        exact ⟨a, vs, q1, .inl (SqL.of q2), q3⟩
      · obtain rfl := dr_tup hx
        obtain ⟨a, vs, q1, q2, q3⟩ := tup_sq rv
        exact ⟨a, vs, q1, .inr q2, q3⟩
    rw [← hK]
    refine ⟨a, vs, rfl, h1, by rw [h2.length]; exact hl, fun p hp => ?_⟩
    have rn := newL (ds := (xs.drop k).take (xs.length + 1 - n)) (vs := (vs.drop k).take (xs.length + 1 - n)) rel hp ((h2.drop k).take _)
    refine ⟨W, _, ρ, st, q, xq, rel.fresh hp, re.le (Le.fresh hp), ?_, w, o.le (Le.fresh hp)⟩
    have l := h2.le (Le.fresh (o := .lst ((vs.drop k).take (xs.length + 1 - n))) hp)
    have el := h2.length
    rw [el]
    exact ((l.take k).append (.one rn)).append ((l.drop k).drop _)
end

/-! ## keyword-only parameters -/
structure CalK (P : Program) (w : World) (G : Gm) (mg : Str → Option Value) (base : Heap) (k : Nat) (x : Str) (n : Nat) (ks : List Str) (dsp : DSp) : Prop where
  ex : ∃ f fd ps, FnD P w G mg base CX0 k f fd ps dsp ∧ mg x = some (.ref f) ∧ PySem.W.keepIn G.K (.ref f) = true ∧ KBn G.K fd ps n ks (fun us ws => us ++ ws) (fun vs zs => vs ++ zs)
/-- called without its keyword: the default is () -/
structure CalD (P : Program) (w : World) (G : Gm) (mg : Str → Option Value) (base : Heap) (k : Nat) (x : Str) (dsp : DSp) : Prop where
  ex : ∃ f fd ps T, FnD P w G mg base CX0 k f fd ps dsp ∧ mg x = some (.ref f) ∧ PySem.W.keepIn G.K (.ref f) = true ∧ Binds G.K fd ps [.ref T] ∧ SqT G.K (fun _ => none) T []
@[simp] def mCallK (n m : Nat) (dsp : DSp) (w wk : MA) : ME := fun ρ st R xq => w ρ st (fun ds st1 => wk ρ st1 (fun zs st2 => ds.length = n ∧ zs.length = m ∧ dsp (ds ++ zs) st2 R xq) xq) xq
@[simp] def mCallD (dsp : DSp) (w : MA) : ME := fun ρ st R xq => w ρ st (fun ds st1 => dsp (ds ++ [.tup []]) st1 R xq) xq
def PDK (G : Gm) (E : XK) (X : Cx) (kws : List Keyword) (w : MA) : Prop := PK X kws (tDA G E w)
theorem PK.weak {X : Cx} {kws : List Keyword} {t t' : TA} (h : PK X kws t) (hw : ∀ σ H Q, t' σ H Q → t σ H Q) : PK X kws t' := ⟨fun pos pins s σ H Q I q => h.run pos pins s σ H Q I (hw _ _ _ q)⟩
section
variable {G : Gm} {E : XK} {X : Cx}
theorem mk_nil : PDK G E X [] maNil := PK.weak pk_nil fun σ H Q ⟨W, ρ, st, R, xq, rel, re, w, o⟩ => o.rt W H [] [] st Le.refl rel RpL.nil w
theorem mk_cons {nm : Option Str} {e : Expr} {kpos : Pos} {kws : List Keyword} {w : ME} {r : MA} (ha : PDE G E X e w) (hr : PDK G E X kws r) : PDK G E X (⟨nm, e, kpos⟩ :: kws) (maCons w r) :=
  PK.weak (pk_cons ha hr) fun σ H Q ⟨W, ρ, st, R, xq, rel, re, w, o⟩ =>
    ⟨W, ρ, st, _, xq, rel, re, w, ⟨fun W1 H1 d v st1 l1 rel1 rv w1 => ⟨W1, ρ, st1, _, xq, rel1, re.le l1, w1, ⟨fun W2 H2 ds vs st2 l2 rel2 rvs w2 => o.rt W2 H2 _ _ st2 (l1.trans l2) rel2 (RpL.cons (rv.le l2) rvs) w2, (o.le l1).xq⟩⟩, o.xq⟩⟩
theorem pd_callK {k n m : Nat} {ks : List Str} {dsp : DSp} {x : Str} {p pos : Pos} {e : Expr} {es : List Expr} {kws : List Keyword} {w wk : MA} (C : CalK X.prog X.w G X.mg X.base k x n ks dsp) (hr : Room k X.A) (ha : PDA G E X (e :: es) w) (hkw : PDK G E X kws wk) (hm : ks.length = m := by rfl) (hg : Gl X x := by rfl)
    (hall : (backToKw pos (keywordEach kws X.env)).all (·.1.isSome) = true := by rfl) (hks : (backToKw pos (keywordEach kws X.env)).filterMap (·.1) = ks := by rfl)
    (hdb : (x == ("__debug__" : Str)) = false := by decide +kernel) (he : starEach (e :: es) X.env = (false, eval e X.env) :: starEach es X.env := by rfl)
    (hpl : ((backTo pos (starEach (e :: es) X.env)).any (·.1) || (backToKw pos (keywordEach kws X.env)).any (·.1.isNone)) = false := by rfl) (hK : G.K = X.K := by rfl) :
    PDE G E X (.Call (.Name x p) (e :: es) kws pos) (mCallK n m dsp w wk) := by
  subst hm
  obtain ⟨f, fd, ps, F, hm, hk, hb⟩ := C.ex
  unfold FnD at F
  rw [hK] at F hk hb
  exact PE.weak (pe_callN F hr hg hm hk hb passA ha hkw hall hks hdb he hpl) fun σ H Q ⟨W, ρ, st, R, xq, rel, re, w, o⟩ =>
    ⟨W, ρ, st, _, xq, rel, re, w, ⟨fun W1 H1 ds vs st1 l1 rel1 rv w1 => ⟨W1, ρ, st1, _, xq, rel1, re.le l1, w1, ⟨fun W2 H2 zs us st2 l2 rel2 rz w2 =>
      ⟨by rw [rv.length]; exact w2.1, by rw [rz.length]; exact w2.2.1, W2, ds ++ zs, st2, R, xq, rel2, (rv.le l2).append rz, w2.2.2, o.le (l1.trans l2)⟩, (o.le l1).xq⟩⟩, o.xq⟩⟩
theorem pd_callD {k : Nat} {dsp : DSp} {x : Str} {p pos : Pos} {e : Expr} {es : List Expr} {w : MA} (C : CalD X.prog X.w G X.mg X.base k x dsp) (hr : Room k X.A) (ha : PDA G E X (e :: es) w) (hg : Gl X x := by rfl) (hdb : (x == ("__debug__" : Str)) = false := by decide +kernel) (he : starEach (e :: es) X.env = (false, eval e X.env) :: starEach es X.env := by rfl) (hpl : (backTo pos (starEach es X.env)).any (·.1) = false := by rfl) (hK : G.K = X.K := by rfl) :
    PDE G E X (.Call (.Name x p) (e :: es) [] pos) (mCallD dsp w) := by
  obtain ⟨f, fd, ps, T, F, hm, hk, hb, hT⟩ := C.ex
  unfold FnD at F
  have hK' := hK
  rw [hK] at F hk hb
  exact PE.weak (pe_call F hr hg hm hk hb (vals1 (v := .ref T) rfl) passA ha hdb he hpl) fun σ H Q ⟨W, ρ, st, R, xq, rel, re, w, o⟩ =>
    ⟨W, ρ, st, _, xq, rel, re, w, ⟨fun W1 H1 ds vs st1 l1 rel1 rv w1 => ⟨W1, ds ++ [.tup []], st1, R, xq, rel1, rv.append (.one (by simp only [Rp]; exact ⟨T, [], rfl, .inr hT, RpL.nil⟩)), w1, o.le l1⟩, o.xq⟩⟩
end
theorem gTpS_i {n k : Nat} {r : MGs} {d : D} {ρ : DEnv} {st : Sto} {q : DEnv → Sto → Prop} {xq : XQ} {xs ys : List D} (e : dr st d = .lst xs ∨ dr st d = .tup xs) (hn : n ≤ xs.length + 1) (he : starV n k xs .lst = ys) (h : r ys ρ st q xq) : gTpS n k r d ρ st q xq := ⟨xs, e, hn, by rw [he]; exact h⟩
theorem mCallK_i {n m : Nat} {dsp : DSp} {w wk : MA} {ρ : DEnv} {st : Sto} {R : DQ} {xq : XQ} (h : w ρ st (fun ds st1 => wk ρ st1 (fun zs st2 => ds.length = n ∧ zs.length = m ∧ dsp (ds ++ zs) st2 R xq) xq) xq) : mCallK n m dsp w wk ρ st R xq := h
theorem mCallD_i {dsp : DSp} {w : MA} {ρ : DEnv} {st : Sto} {R : DQ} {xq : XQ} (h : w ρ st (fun ds st1 => dsp (ds ++ [.tup []]) st1 R xq) xq) : mCallD dsp w ρ st R xq := h
end DL

set_option Elab.async false
set_option linter.all false
set_option maxRecDepth 100000
set_option autoImplicit false
namespace DL
open PySem PySem.Spec PyProof.Rows L2
/-! ## o[a:b] = a list -/
theorem bounds_clamp {a c n : Nat} (hac : a ≤ c) (ha : a ≤ n) : sliceBounds (some (a : Int)) (some (c : Int)) none n = ((a : Int), ((min c n : Nat) : Int), 1) := by
  have q1 : ¬ ((a : Int) < 0) := by omega
  have q2 : ¬ ((c : Int) < 0) := by omega
  simp only [sliceBounds, Option.getD_none, q1, q2, if_false, show (1 : Int) > 0 by decide, if_true]; congr 1; (first | omega | rfl); congr 1; omega
set_option maxRecDepth 100000 in
/-- a slice beyond the end is cut off -/
theorem setItem_clamp {P : Program} {w : World} {A : Around} {E : Value → Shared → Prop} {s : Shared} {l b sl : Addr} {its new : Array Value} {n n2 : Nat} {vl vu : Value} {a c : Nat} {Q : Unit → Shared → Prop}
    (e : s.heap.get? l = some { cls := .type "list", data := .seq its n }) (e2 : s.heap.get? b = some { cls := .type "list", data := .seq new n2 }) (hne : l ≠ b) (hs : s.heap.IsSliceOf sl vl vu .none) (pl : IsPart vl (some (a : Int))) (pu : IsPart vu (some (c : Int)))
    (hac : a ≤ c) (ha : a ≤ its.size) (hz : its.size + new.size ≤ sizeLine) (k : Q () { s with heap := s.heap.update l (Obj.mapSeq fun xs => xs.extract 0 a ++ new ++ xs.extract (min c its.size) xs.size) }) : wpAny (model P w) A (setItem (.ref l) (.ref sl) (.ref b)) Q E s := by
  have hl : s.heap.IsList l its := PySem.IsL.isList e; have hb : s.heap.IsList b new := PySem.IsL.isList e2
  obtain ⟨os, hos, hcs, hds⟩ := id hs
  have tS : s.TypeIs (.ref sl) "slice" := ⟨os, hos, hcs⟩; have st0 : ¬ ((rawPart none == rawInt 0) = true) := Bool.false_ne_true
  have same : Builtin.List.listSameRef (.ref l) (.ref b) = false := by unfold Builtin.List.listSameRef; exact beq_eq_false_iff_ne.mpr hne
  have mx : (max (a : Int) ((min c its.size : Nat) : Int)).toNat = min c its.size := by omega
  have sz : ((fun xs : Array Value => xs.extract 0 a ++ new ++ xs.extract (min c its.size) xs.size) its).size ≤ sizeLine + 1 := by simp only [Array.size_append, Array.size_extract]; omega
  unfold setItem; try with_reducible refine wpAny_holding ?_
  (first | refine wpAny_bind (wpAny_pure ?_) | skip); refine wpAny_bind (wpAny_sequenceKey hl.typeIs (by decide) ?_)
  refine wpAny_bind (wpAny_callSpecial?_slot (name := Str.ofString "__setitem__") hl.typeIs slot_list_setitem (wpAny_call_entry slot_list_setitem hl.typeIs entry_list_setitem ?_ (args_list_setitem _ _ _)))
  show wpAny _ _ (Builtin.List.listSubscript? (.ref sl) >>= _) _ _ s; refine wpAny_bind ?_
  unfold Builtin.List.listSubscript?; refine wpAny_bind (wpAny_specialOf tS slice_no_index ?_)
  simp only [Option.isNone_none, if_true]; refine wpAny_pure ?_
  show wpAny _ _ (typeOf (.ref sl) >>= _) _ _ s; refine wpAny_bind (wpAny_typeOf tS ?_)
  (first | rw [if_neg (by decide)] | refine PySem.W.KFB.if_not (by decide) ?_)
  rw [listSliceParts_eq]; refine wpAny_bind (wpAny_bind (wpAny_field hos hds (x := .none) rfl (wpAny_bind (wpAny_listPart .none ?_))))
  rw [if_neg st0]; refine wpAny_bind (wpAny_field hos hds (x := vl) rfl (wpAny_bind (wpAny_listPart pl ?_)))
  refine wpAny_bind (wpAny_field hos hds (x := vu) rfl (wpAny_bind (wpAny_listPart pu (wpAny_pure ?_)))); (first | simp only [same, Bool.false_eq_true, if_false] | refine PySem.W.KFB.if_not same ?_ | (dsimp only; rw [if_neg (by rw [same]; exact Bool.false_ne_true)]))
  refine wpAny_bind (m := Builtin.List.listAllItems (.ref b) "must assign iterable to extended slice") ?_; unfold Builtin.List.listAllItems
  refine wpAny_bind (wpAny_typeOf hb.typeIs ?_); (first | refine PySem.W.KFB.if_so (by decide) ?_ | rw [if_pos (by decide)] | simp only [beq_self_eq_true, Bool.true_or, if_true])
  unfold Builtin.List.listItems; refine wpAny_bind (wpAny_seqItems e2 rfl (wpAny_pure ?_))
  refine wpAny_bind (wpAny_bind (wpAny_seqItems e rfl (wpAny_pure ?_))); refine wpAny_bind (wpAny_of_eq ((sliceIndices_raw (some (a : Int)) (some (c : Int)) none its.size (by simp)).trans (congrArg (pure : Int × Int × Int → Sem (Int × Int × Int)) (bounds_clamp hac ha))) ?_)
  show wpAny _ _ (if ((1 : Int) == 1) = true then _ else _) _ _ s; rw [if_pos (by decide)]
  refine wpAny_bind (wpAny_rule ?_); (first | simp only [notLongL hz, Bool.false_eq_true, if_false] | refine PySem.W.KFB.if_not (notLongL hz) ?_)
  (first | refine wpAny_bind (wpAny_pure ?_) | skip); show wpAny _ _ (updateSeq l (fun xs => xs.extract 0 ((a : Int)).toNat ++ new ++ xs.extract (max (a : Int) ((min c its.size : Nat) : Int)).toNat xs.size) >>= _) _ _ s
  rw [mx, Int.toNat_natCast]; refine wpAny_bind (wpAny_updateSeq (hz := Nat.le_trans (Nat.le_add_right _ _) hz) (_hz' := sz) e rfl ?_)
  refine wpAny_bind (wpAny_letGo ?_); (first | exact wpAny_bind (wpAny_pure (wpAny_pure ⟨.none, rfl, wpAny_pure k⟩)) | exact wpAny_pure ⟨.none, rfl, wpAny_pure k⟩)
theorem set_clamp {X : Cx} {pins : List (Addr × Obj)} {s : Shared} {σ : L2.St} {H : Hp} {l b sl : Addr} {xs ys : List V} {a c : Int} {vl vu : Value} {Q : Unit → Shared → Prop} (I : Inv X pins σ H s) (hH : H l = some (.lst xs)) (hB : H b = some (.lst ys)) (hne : l ≠ b)
    (hs : s.heap.IsSliceOf sl vl vu .none) (ra : RelV (.int a) vl) (rc : RelV (.int c) vu) (h0 : 0 ≤ a) (hac : a ≤ c) (ha : a ≤ xs.length) (hz : xs.length + ys.length ≤ sizeLine) (k : ∀ s', Inv X pins σ (upd H l (.lst (xs.take a.toNat ++ ys ++ xs.drop c.toNat))) s' → Q () s') :
    wpAny (model X.prog X.w) X.A (setItem (.ref l) (.ref sl) (.ref b)) Q X.xe s := by
  obtain ⟨ta, rfl⟩ := ra; obtain ⟨tc, rfl⟩ := rc
  obtain ⟨z, its, n, r, hl, e⟩ := I.lstM hH; obtain ⟨z2, its2, n2, r2, hl2, e2⟩ := I.lstM hB
  obtain ⟨a', rfl⟩ := Int.eq_ofNat_of_zero_le h0; obtain ⟨c', rfl⟩ := Int.eq_ofNat_of_zero_le (Int.le_trans h0 hac)
  simp only [Int.toNat_natCast] at k
  have dr : xs.drop c' = xs.drop (min c' its.length) := by
    by_cases q : c' ≤ its.length
    · rw [Nat.min_eq_left q]
    · rw [Nat.min_eq_right (by omega), List.drop_eq_nil_of_le (by omega), List.drop_eq_nil_of_le (by omega)]
  refine setItem_clamp (a := a') (c := c') e e2 hne hs (.int _ _) (.int _ _) (by omega) (by rw [List.size_toArray]; omega) (by rw [List.size_toArray, List.size_toArray]; omega) (k _ ?_)
  rw [dr]
  refine I.lset (its' := its.take a' ++ its2 ++ its.drop (min c' its.length)) (t' := s.toks) hH e ?_ (Vals.append (Vals.append (r.take _) r2) (r.drop _)) ?_
  · rw [List.size_toArray]; exact splice_eq its its2 a' _
  · rw [List.length_append, List.length_append, List.length_take, List.length_drop]; omega
def gSubSl (to tl th : TE) : TG := fun v σ H Q => to σ H fun o H1 => tl σ H1 fun i H2 => th σ H2 fun j H3 => ∃ (l b : Addr) (xs ys : List V) (a c : Int), o = .ref l ∧ v = .ref b ∧ i = .int a ∧ j = .int c ∧ H3 l = some (.lst xs) ∧ H3 b = some (.lst ys) ∧ l ≠ b ∧ 0 ≤ a ∧ a ≤ c ∧ a ≤ xs.length ∧ xs.length + ys.length ≤ sizeLine ∧
  Q σ (upd H3 l (.lst (xs.take a.toNat ++ ys ++ xs.drop c.toNat)))
theorem pg_subSl {X : Cx} {o lo hi : Expr} {to tl th : TE} {pos p2 : Pos} (ho : PE X o to) (hl : PE X lo tl) (hh : PE X hi th)
    (ha : ∀ v, assign (.Subscript o (.Slice (some lo) (some hi) none p2) pos) X.env v = (do
      let ov ← holding [v] (eval o X.env); let iv ← holding [v, ov] (eval (.Slice (some lo) (some hi) none p2) X.env)
      standAt pos; holding [v, ov, iv] (setItem ov iv v); release [iv, v, ov] []) := by intro _; rfl) : PG X (.Subscript o (.Slice (some lo) (some hi) none p2) pos) (gSubSl to tl th) := by
  refine ⟨fun pins s σ H v u Q I r h => ?_⟩
  rw [ha]
  refine wpAny_bind (wpAny_holding (thn (ho.run pins s σ H _ I h) fun ov s1 ⟨x, H1, I1, r1, q1⟩ => wpAny_bind (wpAny_holding (wpAny_Slice ?_))))
  rw [evalPart_some]
  refine thn (hl.run pins s1 σ H1 _ I1 q1) fun vl s2 ⟨y, H2, I2, r2, q2⟩ => ?_
  rw [evalPart_some]
  refine thn (hh.run pins s2 σ H2 _ I2 q2) fun vu s3 ⟨z, H3, I3, r3, q3⟩ => ?_
  rw [evalPart_none]
  refine wpAny_pure ?_
  obtain ⟨l, b, xs, ys, a, c, rfl, rfl, rfl, rfl, e1, e2, ne, h0, hac, hc, hz, q⟩ := q3
  have I4 : Inv X pins σ H3 { s3 with heap := s3.heap.push { cls := .type "slice", data := .fields #[vl, vu, .none] } } := I3.kept (t' := s3.toks) fun b ob q => Heap.get?_push_of_some _ q
  cases r; cases r1
  refine wpAny_bind (wpAny_standAt (wpAny_bind (wpAny_holding (set_clamp I4 e1 e2 ne (Heap.IsSliceOf.new ..) r2 r3 h0 hac hc hz fun s' I' => ?_))))
  exact wpAny_release ⟨σ, _, I', q⟩
@[simp] def gSbSl (wo wl wh : ME) : MG := fun d ρ st k xq => wo ρ st (fun o st1 => wl ρ st1 (fun i st2 => wh ρ st2 (fun j st3 => ∃ (p : Nat) (xs ys : List D) (a c : Int), o = .hdl p ∧ i = .int a ∧ j = .int c ∧ st3[p]? = some (.lst xs) ∧ dr st3 d = .lst ys ∧ d ≠ .hdl p ∧ 0 ≤ a ∧ a ≤ c ∧ a ≤ xs.length ∧ xs.length + ys.length ≤ sizeLine ∧
  k ρ (st3.set p (.lst (xs.take a.toNat ++ ys ++ xs.drop c.toNat)))) xq) xq) xq
section
variable {G : Gm} {E : XK} {X : Cx}
theorem gd_sbSl {o lo hi : Expr} {wo wl wh : ME} {pos p2 : Pos} (ho : PDE G E X o wo) (hl : PDE G E X lo wl) (hh : PDE G E X hi wh)
    (ha : ∀ v, assign (.Subscript o (.Slice (some lo) (some hi) none p2) pos) X.env v = (do
      let ov ← holding [v] (eval o X.env); let iv ← holding [v, ov] (eval (.Slice (some lo) (some hi) none p2) X.env)
      standAt pos; holding [v, ov, iv] (setItem ov iv v); release [iv, v, ov] []) := by intro _; rfl) : PDG G E X (.Subscript o (.Slice (some lo) (some hi) none p2) pos) (gSbSl wo wl wh) :=
  PG.weak (pg_subSl ho hl hh ha) fun v σ H Q ⟨W, d, ρ, st, k, xq, rel, re, rv, w, o⟩ =>
    ⟨W, ρ, st, _, xq, rel, re, w, ⟨fun W1 H1 dx x st1 l1 rel1 rx w1 => ⟨W1, ρ, st1, _, xq, rel1, re.le l1, w1, ⟨fun W2 H2 di y st2 l2 rel2 ry w2 => ⟨W2, ρ, st2, _, xq, rel2, re.le (l1.trans l2), w2, ⟨fun W3 H3 dj z st3 l3 rel3 rz w3 => by
      obtain ⟨p, xs, ys, a, c, rfl, rfl, rfl, e1, e2, ne, h0, hac, hc, hz, w3⟩ := w3
      have rx3 := rx.le (l2.trans l3)
      have rv3 := rv.le (l1.trans (l2.trans l3))
      have ry3 := ry.le l3
      simp only [Rp] at rx3 ry3 rz
      obtain ⟨A, hA, rfl⟩ := rx3
      obtain ⟨b, h2, vs, h3, h4⟩ := rel3.cell _ _ e1
      rw [hA] at h2; cases h2
      obtain ⟨B, us, rfl, hB, hBr⟩ := dr_lst rel3 rv3 e2
      have nAB : A ≠ B := by
        rintro rfl
        cases d with
        | hdl q =>
          simp only [Rp] at rv3
          obtain ⟨C, hC, e⟩ := rv3
          cases e
          exact ne (by rw [get_inj rel3.nd hC hA])
        | lst ys' =>
          simp only [Rp] at rv3
          obtain ⟨C, _, e, n1, _⟩ := rv3
          cases e
          exact n1 (rel3.mem hA)
        | non => cases e2
        | bl _ => cases e2
        | int _ => cases e2
        | str _ => cases e2
        | tup _ => cases e2
        | scr _ => cases e2
        | raw _ => cases e2
        | exc _ => cases e2
      refine ⟨A, B, vs, us, a, c, rfl, rfl, ry3, rz, h3, hB, nAB, h0, hac, by rw [h4.length]; exact hc, by rw [h4.length, hBr.length]; exact hz, ?_⟩
      have l4 := Le.write (H := H3) (o := HO.lst (vs.take a.toNat ++ us ++ vs.drop c.toNat)) (rel3.mem hA)
      exact o.rt W3 _ _ σ _ (l1.trans (l2.trans (l3.trans l4))) (wrL rel3 hA (((h4.take _).append hBr).append (h4.drop _))) (re.le (l1.trans (l2.trans (l3.trans l4)))) w3, (o.le (l1.trans l2)).xq⟩⟩, (o.le l1).xq⟩⟩, o.xq⟩⟩
end
theorem gSbSl_i {wo wl wh : ME} {d : D} {ρ : DEnv} {st : Sto} {k : DEnv → Sto → Prop} {xq : XQ} (h : wo ρ st (fun o st1 => wl ρ st1 (fun i st2 => wh ρ st2 (fun j st3 => ∃ (p : Nat) (xs ys : List D) (a c : Int), o = .hdl p ∧ i = .int a ∧ j = .int c ∧ st3[p]? = some (.lst xs) ∧ dr st3 d = .lst ys ∧ d ≠ .hdl p ∧ 0 ≤ a ∧ a ≤ c ∧ a ≤ xs.length ∧ xs.length + ys.length ≤ sizeLine ∧
  k ρ (st3.set p (.lst (xs.take a.toNat ++ ys ++ xs.drop c.toNat)))) xq) xq) xq) : gSbSl wo wl wh d ρ st k xq := h
end DL

set_option Elab.async false
set_option linter.all false
set_option maxRecDepth 100000
set_option autoImplicit false
namespace DL
open PySem PySem.Spec PyProof.Rows L2
/-! ## zip of two lists that stay -/
def zipD (xs ys : List D) : List D := (xs.zip ys).map fun p => .tup [p.1, p.2]
theorem zipD_get {xs ys : List D} {i : Nat} {d : D} (e : (zipD xs ys)[i]? = some d) : ∃ x y, xs[i]? = some x ∧ ys[i]? = some y ∧ d = .tup [x, y] := by
  unfold zipD at e
  rw [List.getElem?_map, Option.map_eq_some_iff] at e
  obtain ⟨p, e1, rfl⟩ := e
  rw [List.getElem?_zip_eq_some] at e1
  exact ⟨p.1, p.2, e1.1, e1.2, rfl⟩
theorem it_zip {G : Gm} {W : Wd} {H : Hp} {a b : Addr} {xs ys : List D} (h : ∀ W' H', LeR W H W' H' → ∃ vs us, SqL G.K H' a vs ∧ RpL G.K W' H' xs vs ∧ SqL G.K H' b us ∧ RpL G.K W' H' ys us) : ItD G (Itz G.K a b) W H (zipD xs ys) noInv := by
  intro i W' H' st' l rel _
  obtain ⟨vs, us, h1, h2, h3, h4⟩ := h W' H' l
  refine ⟨fun hl => ⟨vs, us, h1, h3, ?_⟩, fun d e => ?_⟩
  · rw [h2.length, h4.length]
    have : (zipD xs ys).length = min xs.length ys.length := by simp [zipD]
    omega
  · obtain ⟨x, y, e1, e2, rfl⟩ := zipD_get e
    obtain ⟨v, q1, r1⟩ := h2.get e1
    obtain ⟨u, q2, r2⟩ := h4.get e2
    refine ⟨⟨vs, us, v, u, h1, h3, q1, q2⟩, fun z H'' g => ?_⟩
    obtain ⟨T, v', u', rfl, hT, rfl, g1, g2⟩ := g
    have e3 := g1 vs h1
    rw [q1] at e3; cases e3
    have e4 := g2 us h3
    rw [q2] at e4; cases e4
    exact ⟨W', Le.fresh hT, rel.fresh hT, newT rel hT (RpL.cons r1 (.one r2))⟩
@[simp] def miZip (w : MA) : MI := fun ρ st R xq => w ρ st (fun ds st1 => match ds with | [.lst xs, .lst ys] => R (zipD xs ys) noInv st1 | _ => False) xq
section
variable {G : Gm} {E : XK} {X : Cx}
theorem mi_zip {e e2 : Expr} {w : MA} {p pos tpos : Pos} {elts : List Expr} {kk : Nat} (hm : X.mg "zip" = none) (ha : PDA G E X [e, e2] w) (hg : Gl X "zip" := by rfl) (hs : starEach [e, e2] X.env = (false, eval e X.env) :: starEach [e2] X.env := by rfl) (hpl : (backTo pos (starEach [e2] X.env)).any (·.1) = false := by rfl) (hK : G.K = X.K := by rfl) :
    PDI G E X (.Tuple elts kk tpos) (.Call (.Name "zip" p) [e, e2] [] pos) (miZip w) :=
  PI.weak (pi_zip hg hm ha hs hpl) fun σ H Q ⟨W, ρ, st, R, xq, rel, re, w, o⟩ =>
    ⟨W, ρ, st, _, xq, rel, re, w, ⟨fun W1 H1 ds vs st1 l1 rel1 rv w1 => by
      rw [← hK]
      split at w1
      · rename_i xs ys
        obtain ⟨v, u, rfl, r1, r2⟩ := rpl2 rv
        simp only [Rp] at r1 r2
        obtain ⟨a, vs, rfl, h1, h2, h3, h4⟩ := r1
        obtain ⟨b, us, rfl, g1, g2, g3, g4⟩ := r2
        refine ⟨a, b, vs, us, rfl, SqL.of h3, SqL.of g3, o.rt W1 H1 _ _ _ st1 l1 rel1 (it_zip fun W2 H2 l2 => ⟨vs, us, ?_, h4.leR l2, ?_, g4.leR l2⟩) w1⟩
        · exact SqL.of (l2.keep a _ h1 h2 h3).2.2
        · exact SqL.of (l2.keep b _ g1 g2 g3).2.2
      · exact w1.elim, o.xq⟩⟩
end
/-- what is never come to -/
def sNever : MS := fun _ _ _ => False
theorem sd_never {G : Gm} {E : XK} {X : Cx} {s : Stmt} : PDS G E X s sNever := PS.weak ps_never fun Dn σ H ⟨W, ρ, st, e, rel, re, w, o⟩ => w.elim
theorem miZip_i {w : MA} {ρ : DEnv} {st : Sto} {xq : XQ} {k : List D → (Sto → Prop) → Sto → Prop} (h : w ρ st (fun ds st1 => match ds with | [.lst xs, .lst ys] => k (zipD xs ys) noInv st1 | _ => False) xq) : miZip w ρ st k xq := h
end DL

set_option Elab.async false
set_option linter.all false
set_option maxRecDepth 100000
set_option autoImplicit false
set_option maxHeartbeats 2000000
namespace L2
open PySem PySem.Spec PyProof.Rows
section
variable {X : Cx} {pins : List (Addr × Obj)} {σ : St} {H : Hp} {s : Shared}
/-- a pinned exception is tracked from now on -/
theorem Inv.trackX {a C : Addr} {oe : Obj} (I : Inv X ((a, oe) :: pins) σ H s) (n0 : X.s_0.heap.get? a = none) (np : ∀ p ∈ X.pn ++ pins, p.1 ≠ a) (z : Zc (.ref C) none oe) (d : ∃ vs, oe.data = .fields vs) : Inv X pins σ (upd H a (EXo C a)) s := by
  obtain ⟨e1, n, nL, nF, nc⟩ := I.pin (a, oe) (List.mem_append_right _ List.mem_cons_self)
  have ne : ∀ {b : Addr} {u : HO}, H b = some u → b ≠ a := fun {b u} e z => by rw [z] at e; rw [show H a = none from n] at e; cases e
  have nh : ∀ {b : Addr} {u : HO}, X.H_0 b = some u → H b = some u → b ≠ a := fun {b u} _ e => ne e
  refine ⟨I.ok, I.os, I.bare, ⟨I.base.keep, I.base.slot, fun b o e n' hx => ?_, I.base.there, fun b xs e => ?_, fun b o u e => ?_, fun b ps e => ?_⟩, I.loc, I.cell, ?_, fun y c e => ?_, fun p hp => ?_, fun b u e => ?_, I.len⟩
  · rw [upd_ne (fun q => by rw [q, n0] at e; cases e)]; exact I.base.free b o e n' hx
  · have q := I.base.tups b xs e; rw [upd_ne (ne q)]; exact q
  · have q := I.base.frzs b o u e; rw [upd_ne (ne q)]; exact q
  · obtain ⟨m, q⟩ := I.base.tbls b ps e; exact ⟨m, by rw [upd_ne (ne q)]; exact q⟩
  · rw [upd_ne (Ne.symm nL)]; exact I.free
  · have nca : c ≠ a := fun q => by
      obtain ⟨v, o, h1, h2⟩ := I.cell y c e
      rw [q, show s.heap.get? a = some oe from e1] at h1
      cases h1
      exact nc _ h2
    rw [upd_ne nca]; exact I.freeC y c e
  · obtain ⟨h1, h2, h3⟩ := I.pin p ((List.mem_append.mp hp).elim (fun q => List.mem_append_left _ q) fun q => List.mem_append_right _ (List.mem_cons_of_mem _ q))
    exact ⟨h1, by rw [upd_ne (np p hp)]; exact h2, h3⟩
  · by_cases hb : b = a
    · subst hb; rw [upd_same] at e; cases e; exact exo_is e1 z d
    · rw [upd_ne hb] at e
      exact (I.hok b u e).stay (fun c v _ q => q) (fun c q => by rw [upd_ne (ne q)]; exact q) fun c xs q => by rw [upd_ne (ne q)]; exact q
end
/-- what the clause 'except x as n: m = n' wishes of an exception: slots i, j are n's, m's; the object is tracked behind it -/
def wKeep (K : PySem.W.Frag) (c : Value) (i j : Nat) (Wout : WX) (D : Ends) : WX := fun cls d σ H =>
  ∃ C b, cls = .ref C ∧ d = none ∧ PySem.W.exmOne K cls c = some b ∧ (b = true → ∀ a, H a = none → D.nx (((σ.set i (some (.ref a))).set j (some (.ref a))).set i none) (upd H a (EXo C a))) ∧ (b = false → Wout cls d σ H)
section
variable {X : Cx} {x n : Str} {c : Value} {i j : Nat} {body suite : List Stmt} {b₀ : Stmt} {np pos pos' : Pos} {tb : WX → TS} {Wout : WX}
theorem ps_try_keep (hs : X.stack = X.env :: X.outer) (hf : X.env.frame = some X.env.locals) (hex : X.ex = []) (hN : X.N.Nodup) (hi : X.N[i]? = some n) (hlt : i < X.N.length) (hln : X.env.kindOf n = some .local) (hc : Names X x c) (tk : Takes X Wout)
    (hb : ∀ (W : WX) (pn : List (Addr × Obj)) (xe : Value → Shared → Prop), Takes (X.tr pn xe) W → PSs (X.tr pn xe) body (tb W))
    (hsu : ∀ (a : Addr) (oe : Obj) (pn : List (Addr × Obj)), PSs (X.suite a ((a, oe) :: pn)) (b₀ :: suite) (fun D σ H => σ[i]? = some (some (.ref a)) ∧ D.nx (σ.set j (some (.ref a))) H)) :
    PS X (.Try body [.ExceptHandler (some (.Name x np)) (some n) (b₀ :: suite) pos'] [] [] pos) (fun D σ H => tb (wKeep X.K c i j Wout D) D σ H) := by
  refine ⟨fun pins s σ H D I h => ?_⟩
  have ok := I.ok; have hfr : X.A.frames = some (X.env :: X.outer) := by rw [ok.frames, hs]
  refine wpAny_Try_except (wpAny_mono ((hb (wKeep X.K c i j Wout D) (X.pn ++ pins) (fun e s₁ => wpAny (model X.prog X.w) X.A (noteFrame e X.env) (fun _ s₂ => wpAny (model X.prog X.w) X.A (setFlight e none) (fun _ s₃ =>
    wpAny (model X.prog X.w) X.A (handleBy e X.env [.ExceptHandler (some (.Name x np)) (some n) (b₀ :: suite) pos']) (SP X pins D) X.xe s₃) X.xe s₂) X.xe s₁) (fun u s' xx => ?_)).run [] s σ H D (I.toTry _) h) (fun f s1 hsp => ?_) (fun e s1 he => he))
  · obtain ⟨a, B, sI, pins', σ', H', cls, d, rfl, J', nb, up, sky, na, os, ag, C, b, rfl, rfl, hb1, hyes, hno⟩ := xx
    have J : Inv X pins σ' H' sI := J'.ofTry ok; have sky' : Sky B (X.env :: X.outer) a (Zc (.ref C) none) X.env.locals s'.heap := by rw [← hs]; exact sky
    refine Sky.land (env := X.env) Zc.steady hfr hf sky' fun h3 fl3 up3 => ?_
    have J3 : Inv X pins σ' H' { s' with heap := h3 } := J.landed nb fl3.1 (up.trans up3) os ag; obtain ⟨oe3, vs3, he3, hz3, hd3⟩ := fl3.there
    have nfr : a ∉ frs (X.env :: X.outer) := fun hm => by
      obtain ⟨_, o', e', hnf⟩ := fl3.2.2.1.mem hm; rw [he3] at e'; cases e'; exact hnf _ hd3
    have nL : a ≠ X.env.locals := fun z => nfr (List.mem_filterMap.mpr ⟨X.env, List.mem_cons_self, by rw [hf, z]⟩)
    have nF : a ∉ X.fs := fun hm => by
      obtain ⟨e, he, q⟩ := List.mem_filterMap.mp hm; exact nfr (List.mem_filterMap.mpr ⟨e, List.mem_cons_of_mem _ he, q⟩)
    have nI : sI.heap.get? a = none := by
      cases q : sI.heap.get? a with
      | none => rfl
      | some o => have := nb a o q (by rw [hs]; exact nfr); rw [fl3.2.1] at this; cases this
    have n0 : X.s_0.heap.get? a = none := by
      cases q : X.s_0.heap.get? a with
      | none => rfl
      | some o => obtain ⟨o', q'⟩ := J.base.there a o q (by rw [hex]; exact List.not_mem_nil); rw [nI] at q'; cases q'
    have np' : ∀ p ∈ X.pn ++ pins, p.1 ≠ a := fun p hp z => by have := (J.pin p hp).1; rw [z, nI] at this; cases this
    have S3 := J3.suite he3 hd3 na nL nF
    refine wpAny_handleBy_cons (codeAny_handlers_test ?_) (by intro q; cases q)
    have LT : PySem.W.Looks (model X.prog X.w) h3 (typeOf (.ref a)) (.ref C) := fun A Q E s k q => wpAny_typeOf_ref (k _ _ he3) (by rw [hz3.1]; exact q)
    have LM := PySem.W.exm_one (M := model X.prog X.w) (J3.kIn) LT hb1
    have test : ∀ {Q : Value → Shared → Prop} {E : Value → Shared → Prop}, Q c { s' with heap := h3 } → wpAny (model X.prog X.w) (X.A.mark (some (.ref a))) (eval (.Name x np) X.env) Q E { s' with heap := h3 } := fun {Q E} q => by
      obtain ⟨hg, hdbg, hm | ⟨hm, hv, hnn⟩⟩ := hc
      · exact (ld_glob (X := X.suite a ((a, oe3) :: (X.pn ++ pins))) S3 hg hm q hdbg)
      · exact (ld_blt (X := X.suite a ((a, oe3) :: (X.pn ++ pins))) S3 hg hm hv q hnn hdbg)
    refine test (LM.here ?_)
    cases b with
    | true =>
      refine codeAny_handlers_suite_as (HandSPX.lands_againZ fl3 fun h4 fl4 up4 => ?_)
      have J4 : Inv X pins σ' H' { s' with heap := h4 } := J.landed nb fl4.1 ((up.trans up3).trans up4) os ag; obtain ⟨oe4, vs4, he4, hz4, hd4⟩ := fl4.there
      refine store_ok (X := X.suite a ((a, oe4) :: (X.pn ++ pins))) (v := .ref a) (J4.suite he4 hd4 na nL nF) hN hi (.inl hln) rfl (fun s5 S5 => ?_) (.inr hln)
      refine wpAny_mono ((hsu a oe4 (X.pn ++ pins)).run [] s5 _ H' { nx := fun σ6 H6 => H6 a = none → D.nx (σ6.set i none) (upd H6 a (EXo C a)), rt := fun _ _ => False } S5 ⟨by rw [List.getElem?_set_self]; rw [J4.len]; exact hlt, fun n6 => hyes rfl a na⟩) (fun f s6 hsp => ?_) (fun _ _ z => False.elim z)
      cases f with
      | next =>
        obtain ⟨σ6, H6, S6, q6⟩ := hsp
        obtain ⟨g1, g2, g3⟩ := S6.pin (a, oe4) (List.mem_append_left _ List.mem_cons_self)
        have S7 : Inv X ((a, oe4) :: pins) σ6 H6 s6 := ⟨ok, S6.os, S6.bare, S6.base, S6.loc, S6.cell, S6.free, S6.freeC, fun p hp => S6.pin p (List.mem_append_left _ (by
          rcases List.mem_append.mp hp with q | q
          · exact List.mem_cons_of_mem _ (List.mem_append_left _ q)
          · rcases List.mem_cons.mp q with q | q
            · rw [q]; exact List.mem_cons_self
            · exact List.mem_cons_of_mem _ (List.mem_append_right _ q))), S6.hok, S6.len⟩
        exact gone_ok S7 hN hi hln fun s7 J7 => ⟨_, _, J7.trackX n0 np' hz4 ⟨_, hd4⟩, q6 g2⟩
      | brk => obtain ⟨_, _, _, z⟩ := hsp; exact z.elim
      | cont => obtain ⟨_, _, _, z⟩ := hsp; exact z.elim
      | ret u => obtain ⟨_, _, _, _, _, z⟩ := hsp; exact z.elim
    | false =>
      refine wpAny_handleBy_nil ?_
      obtain ⟨k1, k2, k3, oe, vs, T, oT, ts', he, hz, hd, h1, hr⟩ := id fl3
      unfold PySem.passOn
      refine wpAny_bind (wpAny_field he hd h1 ?_); rw [if_neg (show ¬ ((Value.ref T == Value.none) = true) from by simp)]
      have fin : wpAny (model X.prog X.w) X.A (setFlight (.ref a) X.env.frame) (fun _ s4 => wpAny (model X.prog X.w) X.A (throw (.ref a) : Sem Flow) (SP X pins D) X.xe s4) X.xe { s' with heap := h3 } := by
        rw [hf]
        exact HandSPX.setFlight_upZ fl3 fun h4 hh4 up4 => wpAny_throw (tk _ _ ⟨a, B, sI, pins, σ', H', .ref C, none, rfl, J, nb, (up.trans up3).trans up4, .inr (.inr (by rw [hs]; exact hh4)), na, os, ag, hno rfl⟩)
      first
        | exact wpAny_bind (wpAny_pure (wpAny_bind fin))
        | exact wpAny_bind fin
  · cases f with
    | next => obtain ⟨σ', H', J', q⟩ := hsp; exact wpAny_execs_nil ⟨σ', H', J'.ofTry ok, q⟩
    | brk => obtain ⟨σ', H', J', q⟩ := hsp; exact ⟨σ', H', J'.ofTry ok, q⟩
    | cont => obtain ⟨σ', H', J', q⟩ := hsp; exact ⟨σ', H', J'.ofTry ok, q⟩
    | ret u => obtain ⟨v, σ', H', J', r, q⟩ := hsp; exact ⟨v, σ', H', J'.ofTry ok, r, q⟩
end
end L2
namespace L2
open PySem PySem.Spec PyProof.Rows
section
variable {X : Cx} {CX : CXT} {k n : Nat} {f : Addr} {fd : FuncData} {ps ks : List Str} {sp : Sp} {E : L2.St → XK} {x : Str} {p pos : Pos} {e : Expr} {es : List Expr} {kws : List Keyword} {t tk : TA} {ds : List Value} {dvs : List V}
/-- calls whose exceptions meet a wish at the slots: with keywords; with defaults -/
def tCallNS (n m : Nat) (sp : Sp) (E : L2.St → XK) (t tk : TA) : TE := fun σ H Q => t σ H fun vs H1 => tk σ H1 fun zs H2 => vs.length = n ∧ zs.length = m ∧ sp (vs ++ zs) H2 Q (E σ)
theorem pe_callNS (F : FnOk X.prog X.w X.K X.mg X.base CX k f fd ps sp) (hr : Room k X.A) (hg : Gl X x) (hm : X.mg x = some (.ref f)) (hk : PySem.W.keepIn X.K (.ref f) = true) (hb : KBn X.K fd ps n ks (fun us ws => us ++ ws) (fun vs zs => vs ++ zs)) (hx : ∀ σ, PassesAt CX X σ (E σ))
    (ha : PA X (e :: es) t) (hkw : PK X kws tk) (hall : (backToKw pos (keywordEach kws X.env)).all (·.1.isSome) = true := by rfl) (hks : (backToKw pos (keywordEach kws X.env)).filterMap (·.1) = ks := by rfl)
    (hdb : (x == ("__debug__" : Str)) = false := by decide) (he : starEach (e :: es) X.env = (false, eval e X.env) :: starEach es X.env := by rfl)
    (hpl : ((backTo pos (starEach (e :: es) X.env)).any (·.1) || (backToKw pos (keywordEach kws X.env)).any (·.1.isNone)) = false := by rfl) :
    PE X (.Call (.Name x p) (e :: es) kws pos) (tCallNS n ks.length sp E t tk) := by
  refine ⟨fun pins s σ H Q I h => wpAny_Call_Name_kw (ld_glob I hg hm (PySem.W.callWith_KW (h₀ := X.base) I.ok.mod.kin hk hall (thn (ha.run pos pins s σ H _ I h) fun us s1 ⟨vs, H1, I1, r, q⟩ => thn (hkw.run pos pins s1 σ H1 _ I1 q) fun ws s2 ⟨zs, H2, I2, rz, l1, l2, q2⟩ => ⟨I2.kIn, ?_⟩) hpl he) hdb)⟩
  rw [hks]
  refine wpAny_call (codeAny_mono (F.run X.A X.stack s2 H2 ⟨us, ks.zip ws⟩ (us ++ ws) (vs ++ zs) Q (E σ) hr I2.env0 (hb.to s2 us ws I2.kIn (r.length.symm.trans l1) (rz.length.symm.trans l2)) (r.append rz) q2) fun o s' hq => ?_)
  rcases o with ee | (_ | _ | _ | u)
  all_goals first | exact hx σ pins H2 s2 _ s' I2 hq | exact I2.after hq | exact False.elim hq
def tCallDS (sp : Sp) (dvs : List V) (E : L2.St → XK) (t : TA) : TE := fun σ H Q => t σ H fun vs H1 => sp (vs ++ dvs) H1 Q (E σ)
theorem pe_callDS (F : FnOk X.prog X.w X.K X.mg X.base CX k f fd ps sp) (hr : Room k X.A) (hg : Gl X x) (hm : X.mg x = some (.ref f)) (hk : PySem.W.keepIn X.K (.ref f) = true) (hb : Binds X.K fd ps ds) (hd : Vals dvs ds) (hx : ∀ σ, PassesAt CX X σ (E σ))
    (ha : PA X (e :: es) t) (hdb : (x == ("__debug__" : Str)) = false := by decide) (he : starEach (e :: es) X.env = (false, eval e X.env) :: starEach es X.env := by rfl) (hpl : (backTo pos (starEach es X.env)).any (·.1) = false := by rfl) :
    PE X (.Call (.Name x p) (e :: es) [] pos) (tCallDS sp dvs E t) := by
  refine ⟨fun pins s σ H Q I h => wpAny_Call_Name_kw (ld_glob I hg hm (PySem.W.callWith_K (h₀ := X.base) I.ok.mod.kin hk (thn (ha.run pos pins s σ H _ I h) fun us s1 ⟨vs, H1, I1, r, q⟩ => ⟨I1.kIn, ?_⟩) he hpl) hdb)⟩
  have r2 : Vals (vs ++ dvs) (us ++ ds) := r.append hd
  refine wpAny_call (codeAny_mono (F.run X.A X.stack s1 H1 ⟨us, []⟩ (us ++ ds) (vs ++ dvs) Q (E σ) hr I1.env0 (hb s1 us I1.kIn (by rw [← r2.length]; exact F.len _ _ _ _ q)) r2 q) fun o s' hq => ?_)
  rcases o with ee | (_ | _ | _ | u)
  all_goals first | exact hx σ pins H1 s1 _ s' I1 hq | exact I1.after hq | exact False.elim hq
end
/-! ### isinstance of a kept exception -/
def rIsX (K : PySem.W.Frag) : List V → Hp → VK → Prop := fun xs H Q => ∃ (a C : Addr) (c : V) (u : Value) (b : Bool), xs = [.ref a, c] ∧ H a = some (EXo C a) ∧ ExcC K C ∧ ClsV c u ∧ PySem.W.kitOne K (.ref C) u = some b ∧ Q (.bl b) H
def rIsXT (K : PySem.W.Frag) : List V → Hp → VK → Prop := fun xs H Q => ∃ (a C tp : Addr) (cs : List V) (us : List Value) (b : Bool), xs = [.ref a, .ref tp] ∧ H a = some (EXo C a) ∧ ExcC K C ∧ SqT K H tp cs ∧ Paired ClsV cs us ∧ PySem.W.kitAny K (.ref C) us = some b ∧ Q (.bl b) H
theorem exo_at2 {X : Cx} {pins : List (Addr × Obj)} {σ : St} {H : Hp} {s : Shared} {a C : Addr} (I : Inv X pins σ H s) (e : H a = some (EXo C a)) : ∃ oe, PySem.W.InstAt s.heap a oe C none := by
  obtain ⟨⟨⟨oc, od, oda, osl⟩, hget, ⟨h1, h2⟩, vs, hv⟩, _⟩ := I.hok a _ e
  dsimp only at h1 h2 hv
  subst h1 h2 hv
  exact ⟨_, hget, rfl, rfl, trivial⟩
theorem call_isX {X : Cx} : CallR X (.builtin "isinstance") (rIsX X.K) := by
  intro pins s σ H xs us Q I r h
  obtain ⟨a, C, c, u, b, rfl, ha, ec, k, e, q⟩ := h
  obtain ⟨u1, u2, rfl, r1, r2⟩ := vals2 r
  obtain rfl : u1 = Value.ref a := r1
  have e2 := k.eq r2
  subst e2
  obtain ⟨oe, J⟩ := exo_at2 I ha
  exact PySem.W.kia_one (PySem.W.handS_kitx_exc ec.hg ec.hk ec.hs ec.hd ec.ha ec.hn ec.ht ec.hm) I.kIn J e (fun z => nomatch z) fun tk => ⟨.bl b, H, I.tok tk, rfl, q⟩
theorem call_isXT {X : Cx} : CallR X (.builtin "isinstance") (rIsXT X.K) := by
  intro pins s σ H xs us Q I r h
  obtain ⟨a, C, tp, cs, ws, b, rfl, ha, ec, hT, k, e, q⟩ := h
  obtain ⟨u1, u2, rfl, r1, r2⟩ := vals2 r
  obtain rfl : u1 = Value.ref a := r1
  obtain rfl : u2 = Value.ref tp := r2
  obtain ⟨oe, J⟩ := exo_at2 I ha
  obtain ⟨its, ⟨oc, od, dt, sl⟩, n, rv, h1, h2, h3⟩ := sqT_at I.hok I.kIn hT
  have e3 := ClsV.all k rv
  subst e3
  simp only at h2 h3
  subst h2 h3
  exact PySem.W.kia_tup (PySem.W.handS_kitx_exc ec.hg ec.hk ec.hs ec.hd ec.ha ec.hn ec.ht ec.hm) I.kIn J h1 e (fun z => nomatch z) fun tk => ⟨.bl b, H, I.tok tk, rfl, q⟩
end L2
namespace DL
open PySem PySem.Spec PyProof.Rows L2
/-! ## exceptions -/
/-- a class of errors that the text names -/
structure XNm (K : PySem.W.Frag) (mg : Str → Option Value) (x : Str) (C : Addr) : Prop where
  mg : mg x = some (.ref C)
  kp : PySem.W.keepIn K (.ref C) = true
/-- .. that is raised -/
structure XRs (K : PySem.W.Frag) (C : Addr) : Prop where
  ex : PySem.W.excIn K C [.type "ValueError", .type "Exception", .type "BaseException", .type "object"] "ValueError.__new__" = true
  sb : PySem.W.subIn K (.ref C) (.type "BaseException") = some true
  ty : PySem.W.typeIn K (.ref C) = some (.type "type")
section
variable {G : Gm} {E : XK} {X : Cx}
@[simp] def sRaise (C : Addr) : MS := fun e _ st => e.xq C st
theorem sd_raise {C : Addr} {x m : Str} {j p p2 pos pos'} (tk : Takes X (fun cls d _ H => E cls d H)) (n : XNm G.K X.mg x C) (r : XRs G.K C) (hg : Gl X x := by rfl) (hc : X.calm = true := by rfl) (hdb : (x == ("__debug__" : Str)) = false := by decide +kernel) (hK : G.K = X.K := by rfl) :
    PDS G E X (.Raise (some (.Call (.Name x p) [.Constant (.str m) j p2] [] pos)) none pos') (sRaise C) := by
  have q := r.ex; have q2 := n.kp; have q3 := r.sb; have q4 := r.ty
  rw [hK] at q q2 q3 q4
  exact PS.weak (ps_raise hc tk (pmk_own PySem.F.excBase_ValueError q n.mg q2 (raises_own q3 q4) hg hdb)) fun Dn σ H ⟨W, ρ, st, e, rel, re, w, o⟩ => o.xq W H C st Le.refl rel w
/-- the name of a class -/
theorem pd_xnm {C : Addr} {x : Str} {pos : Pos} (n : XNm G.K X.mg x C) (hg : Gl X x := by rfl) (hd : (x == ("__debug__" : Str)) = false := by decide +kernel) : PDE G E X (.Name x pos) (mC (.raw (.ref C))) :=
  pd_c (pe_glob hg n.mg (v := .ref C) rfl hd) fun _ _ => rfl
/-- isinstance of a kept exception: tb tells the answers -/
@[simp] def dIsX (u : V) (tb : List (Addr × Bool)) : D1 := fun ds st R => match ds with
  | [.exc C, .raw v] => ∃ b, (C, b) ∈ tb ∧ v = u ∧ R (.bl b) st
  | _ => False
@[simp] def dIsXT (us : List Addr) (tb : List (Addr × Bool)) : D1 := fun ds st R => match ds with
  | [.exc C, .tup vs] => ∃ b, (C, b) ∈ tb ∧ vs = us.map (fun a => .raw (.ref a)) ∧ R (.bl b) st
  | _ => False
theorem cd_isX {u : V} {cv : Value} {tb : List (Addr × Bool)} (k : ClsV u cv) (h : ∀ p ∈ tb, ExcC G.K p.1 ∧ PySem.W.kitOne G.K (.ref p.1) cv = some p.2) (hK : G.K = X.K) : CaD G (rIsX X.K) (dIsX u tb) := by
  intro E W H st ds vs R xq Q rel rs w o
  rw [← hK]
  unfold dIsX at w
  split at w
  · rename_i C v
    obtain ⟨b, h1, rfl, w⟩ := w
    obtain ⟨v1, v2, rfl, r1, r2⟩ := rpl2 rs
    simp only [Rp] at r1
    obtain ⟨a, rfl, _, _, ha⟩ := r1
    obtain rfl : v2 = v := r2
    exact ⟨a, C, v2, cv, b, rfl, ha, (h _ h1).1, k, (h _ h1).2, o.rt W H (.bl b) _ st Le.refl rel rfl w⟩
  · cases w
theorem raws_eq {K : PySem.W.Frag} {W : Wd} {H : Hp} : ∀ {us : List Addr} {vs : List V}, RpL K W H (us.map fun a => D.raw (.ref a)) vs → vs = us.map V.ref
  | [], vs, h => by simpa only [List.map, RpL] using h
  | u :: us, vs, h => by
    simp only [List.map, RpL, Rp] at h
    obtain ⟨v, r, rfl, rfl, h2⟩ := h
    rw [raws_eq h2]; rfl
theorem own_all : ∀ us : List Addr, Paired ClsV (us.map V.ref) (us.map Value.ref)
  | [] => .nil
  | u :: us => .cons (.own u) (own_all us)
theorem cd_isXT {us : List Addr} {tb : List (Addr × Bool)} (h : ∀ p ∈ tb, ExcC G.K p.1 ∧ PySem.W.kitAny G.K (.ref p.1) (us.map Value.ref) = some p.2) (hK : G.K = X.K) : CaD G (rIsXT X.K) (dIsXT us tb) := by
  intro E W H st ds vs R xq Q rel rs w o
  rw [← hK]
  unfold dIsXT at w
  split at w
  · rename_i C vs
    obtain ⟨b, h1, rfl, w⟩ := w
    obtain ⟨v1, v2, rfl, r1, r2⟩ := rpl2 rs
    simp only [Rp] at r1
    obtain ⟨a, rfl, _, _, ha⟩ := r1
    obtain ⟨t, cs, rfl, h3, h4⟩ := tup_sq r2
    obtain rfl := raws_eq h4
    exact ⟨a, C, t, _, _, b, rfl, ha, (h _ h1).1, h3, own_all us, (h _ h1).2, o.rt W H (.bl b) _ st Le.refl rel rfl w⟩
  · cases w
/-! ### try: y = v / except P as n: m = n -/
def tDs (G : Gm) (E : L2.St → XK) (w : ME) : TE := fun σ H Q => ∃ W ρ st R xq, Rel G W H st ∧ RpE G.K W H ρ σ ∧ w ρ st R xq ∧ OutE G (E σ) W H R xq Q
def PDEs (G : Gm) (E : L2.St → XK) (X : Cx) (e : Expr) (w : ME) : Prop := PE X e (tDs G E w)
theorem pds_of {E : L2.St → XK} {e : Expr} {w : ME} (h : ∀ E, PDE G E X e w) : PDEs G E X e w :=
  ⟨fun pins s σ H Q I q => (h (E σ)).run pins s σ H Q I q⟩
theorem pds_if {E : L2.St → XK} {c a b : Expr} {t : MT} {wa wb : ME} {pos : Pos} (hc : ∀ E, PDT G E X c t) (ha : PDEs G E X a wa) (hb : PDEs G E X b wb) : PDEs G E X (.IfExp c a b pos) (mIf t wa wb) :=
  PE.weak (pe_ifExp (tA := fun σ H Q => tDT G (E σ) t σ H Q) ⟨fun pins s σ H Q I q => (hc (E σ)).run pins s σ H Q I q⟩ ha hb) fun σ H Q ⟨W, ρ, st, R, xq, rel, re, w, o⟩ =>
    ⟨W, ρ, st, _, xq, rel, re, w, ⟨fun W1 H1 c st1 l1 rel1 w1 => by
      cases c with
      | true => exact ⟨W1, ρ, st1, R, xq, rel1, re.le l1, w1, o.le l1⟩
      | false => exact ⟨W1, ρ, st1, R, xq, rel1, re.le l1, w1, o.le l1⟩, o.xq⟩⟩
end
/-- calls that may let an exception out -/
structure CalX (P : Program) (w : World) (G : Gm) (mg : Str → Option Value) (base : Heap) (k : Nat) (x : Str) (dsp : DSp) : Prop where
  ex : ∃ f fd ps, FnD P w G mg base (L2.CX P w) k f fd ps dsp ∧ mg x = some (.ref f) ∧ PySem.W.keepIn G.K (.ref f) = true ∧ Binds G.K fd ps []
structure CalKX (P : Program) (w : World) (G : Gm) (mg : Str → Option Value) (base : Heap) (k : Nat) (x : Str) (n : Nat) (ks : List Str) (dsp : DSp) : Prop where
  ex : ∃ f fd ps, FnD P w G mg base (L2.CX P w) k f fd ps dsp ∧ mg x = some (.ref f) ∧ PySem.W.keepIn G.K (.ref f) = true ∧ KBn G.K fd ps n ks (fun us ws => us ++ ws) (fun vs zs => vs ++ zs)
structure CalDX (P : Program) (w : World) (G : Gm) (mg : Str → Option Value) (base : Heap) (k : Nat) (x : Str) (dsp : DSp) : Prop where
  ex : ∃ f fd ps T, FnD P w G mg base (L2.CX P w) k f fd ps dsp ∧ mg x = some (.ref f) ∧ PySem.W.keepIn G.K (.ref f) = true ∧ Binds G.K fd ps [.ref T] ∧ SqT G.K (fun _ => none) T []
section
variable {G : Gm} {X : Cx} {W : WX}
theorem pds_callK {k n m : Nat} {ks : List Str} {dsp : DSp} {x : Str} {p pos : Pos} {e : Expr} {es : List Expr} {kws : List Keyword} {w wk : MA} (C : CalKX X.prog X.w G X.mg X.base k x n ks dsp) (tk : Takes X W) (hr : Room k X.A) (ha : ∀ E, PDA G E X (e :: es) w) (hkw : ∀ E, PDK G E X kws wk) (hm : ks.length = m := by rfl) (hg : Gl X x := by rfl)
    (hall : (backToKw pos (keywordEach kws X.env)).all (·.1.isSome) = true := by rfl) (hks : (backToKw pos (keywordEach kws X.env)).filterMap (·.1) = ks := by rfl)
    (hdb : (x == ("__debug__" : Str)) = false := by decide +kernel) (he : starEach (e :: es) X.env = (false, eval e X.env) :: starEach es X.env := by rfl)
    (hpl : ((backTo pos (starEach (e :: es) X.env)).any (·.1) || (backToKw pos (keywordEach kws X.env)).any (·.1.isNone)) = false := by rfl) (hK : G.K = X.K := by rfl) :
    PDEs G (WE W) X (.Call (.Name x p) (e :: es) kws pos) (mCallK n m dsp w wk) := by
  subst hm
  obtain ⟨f, fd, ps, F, hm, hk, hb⟩ := C.ex
  unfold FnD at F
  rw [hK] at F hk hb
  exact PE.weak (pe_callNS (E := WE W) (t := fun σ H Q => tDA G (WE W σ) w σ H Q) (tk := fun σ H Q => tDA G (WE W σ) wk σ H Q) F hr hg hm hk hb (fun σ => passAt tk σ) ⟨fun pos pins s σ H Q I q => (ha (WE W σ)).run pos pins s σ H Q I q⟩ ⟨fun pos pins s σ H Q I q => (hkw (WE W σ)).run pos pins s σ H Q I q⟩ hall hks hdb he hpl) fun σ H Q ⟨W, ρ, st, R, xq, rel, re, w, o⟩ =>
    ⟨W, ρ, st, _, xq, rel, re, w, ⟨fun W1 H1 ds vs st1 l1 rel1 rv w1 => ⟨W1, ρ, st1, _, xq, rel1, re.le l1, w1, ⟨fun W2 H2 zs us st2 l2 rel2 rz w2 =>
      ⟨by rw [rv.length]; exact w2.1, by rw [rz.length]; exact w2.2.1, W2, ds ++ zs, st2, R, xq, rel2, (rv.le l2).append rz, w2.2.2, o.le (l1.trans l2)⟩, (o.le l1).xq⟩⟩, o.xq⟩⟩
theorem pds_callD {k : Nat} {dsp : DSp} {x : Str} {p pos : Pos} {e : Expr} {es : List Expr} {w : MA} (C : CalDX X.prog X.w G X.mg X.base k x dsp) (tk : Takes X W) (hr : Room k X.A) (ha : ∀ E, PDA G E X (e :: es) w) (hg : Gl X x := by rfl) (hdb : (x == ("__debug__" : Str)) = false := by decide +kernel) (he : starEach (e :: es) X.env = (false, eval e X.env) :: starEach es X.env := by rfl) (hpl : (backTo pos (starEach es X.env)).any (·.1) = false := by rfl) (hK : G.K = X.K := by rfl) :
    PDEs G (WE W) X (.Call (.Name x p) (e :: es) [] pos) (mCallD dsp w) := by
  obtain ⟨f, fd, ps, T, F, hm, hk, hb, hT⟩ := C.ex
  unfold FnD at F
  have hK' := hK
  rw [hK] at F hk hb
  exact PE.weak (pe_callDS (E := WE W) (t := fun σ H Q => tDA G (WE W σ) w σ H Q) F hr hg hm hk hb (vals1 (v := .ref T) rfl) (fun σ => passAt tk σ) ⟨fun pos pins s σ H Q I q => (ha (WE W σ)).run pos pins s σ H Q I q⟩ hdb he hpl) fun σ H Q ⟨W, ρ, st, R, xq, rel, re, w, o⟩ =>
    ⟨W, ρ, st, _, xq, rel, re, w, ⟨fun W1 H1 ds vs st1 l1 rel1 rv w1 => ⟨W1, ds ++ [.tup []], st1, R, xq, rel1, rv.append (.one (by simp only [Rp]; exact ⟨T, [], rfl, .inr hT, RpL.nil⟩)), w1, o.le l1⟩, o.xq⟩⟩
theorem pds_call {k : Nat} {dsp : DSp} {x : Str} {p pos : Pos} {e : Expr} {es : List Expr} {w : MA} (C : CalX X.prog X.w G X.mg X.base k x dsp) (tk : Takes X W) (hr : Room k X.A) (ha : ∀ E, PDA G E X (e :: es) w) (hg : Gl X x := by rfl) (hdb : (x == ("__debug__" : Str)) = false := by decide +kernel) (he : starEach (e :: es) X.env = (false, eval e X.env) :: starEach es X.env := by rfl) (hpl : (backTo pos (starEach es X.env)).any (·.1) = false := by rfl) (hK : G.K = X.K := by rfl) :
    PDEs G (WE W) X (.Call (.Name x p) (e :: es) [] pos) (mCall dsp w) := by
  obtain ⟨f, fd, ps, F, hm, hk, hb⟩ := C.ex
  unfold FnD at F
  rw [hK] at F hk hb
  exact PE.weak (pe_callDS (E := WE W) (t := fun σ H Q => tDA G (WE W σ) w σ H Q) F hr hg hm hk hb .nil (fun σ => passAt tk σ) ⟨fun pos pins s σ H Q I q => (ha (WE W σ)).run pos pins s σ H Q I q⟩ hdb he hpl) fun σ H Q ⟨W, ρ, st, R, xq, rel, re, w, o⟩ =>
    ⟨W, ρ, st, _, xq, rel, re, w, ⟨fun W1 H1 ds vs st1 l1 rel1 rv w1 => ⟨W1, ds, st1, R, xq, rel1, by rw [List.append_nil]; exact rv, w1, o.le l1⟩, o.xq⟩⟩
end
section
variable {G : Gm} {E : XK} {X : Cx}
/-- try: y = v / except P as n: m = n: only exceptions of the classes cs come out of v; slots l, i, j are y's, n's, m's -/
@[simp] def sTry (l i j : Nat) (cs : List Addr) (w : ME) : MS := fun e ρ st => w ρ st (fun d st1 => e.nx (ρ.set l (some d)) st1) fun C st1 => C ∈ cs ∧ e.nx ((ρ.set j (some (.exc C))).set i none) st1
theorem RpE.unset {K : PySem.W.Frag} {W : Wd} {H : Hp} {ρ : DEnv} {σ : L2.St} (r : RpE K W H ρ σ) (i : Nat) (o : Option V) : RpE K W H (ρ.set i none) (σ.set i o) := by
  refine ⟨by simp [r.len], fun j e q => ?_⟩
  by_cases hj : i = j
  · subst hj
    by_cases hi : i < ρ.length
    · rw [List.getElem?_set_self hi] at q; cases q
    · rw [List.getElem?_eq_none (by simp; omega)] at q; cases q
  · rw [List.getElem?_set_ne hj] at q
    obtain ⟨w, h1, h2⟩ := r.get j e q
    exact ⟨w, by rw [List.getElem?_set_ne hj]; exact h1, h2⟩
theorem sd_try {P : Addr} {cs : List Addr} {x n y m : Str} {v : Expr} {w : ME} (l i j : Nat) {np yp mp np2 apos apos2 pos pos' : Pos} (nm : XNm G.K X.mg x P) (hcs : ∀ C ∈ cs, PySem.W.exmOne G.K (.ref C) (.ref P) = some true)
    (hv : ∀ (W : WX) (pn : List (Addr × Obj)) (xe : Value → Shared → Prop), Takes (X.tr pn xe) W → PDEs G (WE W) (X.tr pn xe) v w)
    (hN : X.N.Nodup) (hij : i ≠ j := by decide) (hs : X.stack = X.env :: X.outer := by rfl) (hf : X.env.frame = some X.env.locals := by rfl) (hex : X.ex = [] := by rfl)
    (hl : X.N[l]? = some y := by rfl) (hi : X.N[i]? = some n := by rfl) (hj : X.N[j]? = some m := by rfl) (hln : X.env.kindOf n = some .local := by rfl)
    (hyl : X.env.scope.names.lookup y = some .local := by rfl) (hnl : X.env.scope.names.lookup n = some .local := by rfl) (hml : X.env.scope.names.lookup m = some .local := by rfl)
    (hsw : swapsWith v (some (.Name y yp)) apos.line X.env = pure false := by rfl) (hsw2 : swapsWith (.Name n np2) (some (.Name m mp)) apos2.line X.env = pure false := by rfl)
    (hg : Gl X x := by rfl) (hd : (x == ("__debug__" : Str)) = false := by decide +kernel) (hdn : (n == ("__debug__" : Str)) = false := by decide +kernel) (hdc : (n == ("__classdict__" : Str)) = false := by decide +kernel) (hK : G.K = X.K := by rfl) :
    PDS G E X (.Try [.Assign [.Name y yp] v apos] [.ExceptHandler (some (.Name x np)) (some n) [.Assign [.Name m mp] (.Name n np2) apos2] pos'] [] [] pos) (sTry l i j cs w) := by
  refine PS.weak (ps_try_keep (i := i) (j := j) (tb := fun W => tAsg (tDs G (WE W) w) (gName l)) (Wout := fun _ _ _ _ => False) hs hf hex hN hi (List.getElem?_eq_some_iff.mp hi).1 hln ⟨hg, hd, .inl nm.mg⟩ takes0 (fun W pn xe tk => pss_one (ps_set (X := X.tr pn xe) hN hl (.inl hyl) (hv W pn xe tk) hsw (.inr hyl)))
    (fun a oe pn => PSs.weak (pss_one (ps_set (X := X.suite a ((a, oe) :: pn)) hN hj (.inl hml) (pe_var hi (.inl hnl) hdn hdc) hsw2 (.inr hml))) fun D σ H h => ⟨_, h.1, h.2⟩)) fun Dn σ H ⟨W, ρ, st, e, rel, re, w, o⟩ => ?_
  refine ⟨W, ρ, st, _, _, rel, re, w, ⟨fun W1 H1 d v st1 l1 rel1 rv w1 => o.nx W1 H1 _ _ st1 l1 rel1 ((re.le l1).set rv l) w1, fun W1 H1 C st1 l1 rel1 w1 => ?_⟩⟩
  obtain ⟨hC, w1⟩ := w1
  refine ⟨C, true, rfl, rfl, by rw [← hK]; exact hcs C hC, fun _ a na => ?_, fun z => by cases z⟩
  have l2 : Le W1 H1 W1 (upd H1 a (EXo C a)) := Le.fresh na
  have rx : Rp G.K W1 (upd H1 a (EXo C a)) (.exc C) (.ref a) := by simp only [Rp]; exact ⟨a, rfl, rel1.nin na, rel1.nex na, upd_same⟩
  refine o.nx W1 _ _ _ st1 (l1.trans l2) (rel1.fresh na) ?_ w1
  have r1 := ((re.le (l1.trans l2)).set rx j).unset i none
  refine ⟨by simp [r1.len], fun q d h => ?_⟩
  obtain ⟨v, h1, h2⟩ := r1.get q d h
  refine ⟨v, ?_, h2⟩
  by_cases hq : i = q
  · subst hq
    by_cases hi' : i < σ.length
    · rw [List.getElem?_set_self (by simpa using hi')] at h1; cases h1
    · rw [List.getElem?_eq_none (by simpa using hi')] at h1; cases h1
  · rw [List.getElem?_set_ne hq] at h1 ⊢
    by_cases hj' : j = q
    · subst hj'
      by_cases hlt : j < σ.length
      · rw [List.getElem?_set_self hlt] at h1; rw [List.getElem?_set_self (by simpa using hlt)]; exact h1
      · rw [List.getElem?_eq_none (by simpa using hlt)] at h1; cases h1
    · rw [List.getElem?_set_ne hj'] at h1 ⊢; rw [List.getElem?_set_ne hq]; exact h1
end
theorem FnD.mkX {P : Program} {w : World} {G : Gm} {mg : Str → Option Value} {base : Heap} {x qual : Str} {st : Stmt} {f : Addr} {fd : FuncData} {N ps : List Str} {k : Nat} {dsp : DSp} {b : MS} (F : Fun G.K x qual st f fd) (S : FnScope N ps (defScope st)) (len : ∀ ds st R xq, dsp ds st R xq → ds.length = ps.length)
    (der : ∀ (cdv : Value) (A : Around) (outer : List Env) (s : Shared) (H : Hp) (E : XK), Room k (A.deeper (envOfC qual (defScope st) s.heap.objs.size f cdv)) → Takes (cxOf (L2.CX P w) P w G.K mg base N qual (defScope st) f cdv A outer s H E) (fun cls d _ H => E cls d H) → PDSs G E (cxOf (L2.CX P w) P w G.K mg base N qual (defScope st) f cdv A outer s H E) (defBody st) b)
    (sem : ∀ ds st R xq, dsp ds st R xq → b ⟨fun _ st' => R .non st', R, fun _ _ => False, fun _ _ => False, xq⟩ (startD N ds) st) : FnD P w G mg base (L2.CX P w) (k + 1) f fd ps dsp := by
  unfold FnD
  refine F.okX S (fun vs H Q E h => ?_) (fun cdv A outer s H vs Q E hr h => ⟨_, der cdv A outer s H E hr (takes_of rfl rfl rfl rfl), ?_⟩)
  · obtain ⟨W, ds, st, R, xq, rel, rl, hsp, o⟩ := h
    rw [rl.length]; exact len ds st R xq hsp
  · obtain ⟨W, ds, st, R, xq, rel, rl, hsp, o⟩ := h
    exact ⟨W, startD N ds, st, _, rel, start_rp rl, sem ds st R xq hsp, ⟨fun W1 H1 ρ1 σ1 st1 l1 rel1 re1 w1 => o.rt W1 H1 .non .non st1 l1 rel1 rfl w1, fun _ _ _ _ _ _ _ _ z => z.elim, fun _ _ _ _ _ _ _ _ z => z.elim, o.rt, o.xq⟩⟩
end DL

set_option Elab.async false
set_option linter.all false
set_option maxRecDepth 100000
set_option autoImplicit false
namespace DL
open PySem PySem.Spec PyProof.Rows L2
/-! ## unit steps, plain -/
inductive UP (F : List (List Int)) (A : Int → Prop) : Int → Prop
  | asm {l : Int} (h : A l) : UP F A l
  | unit {cl : List Int} {l : Int} (hc : cl ∈ F) (hl : l ∈ cl) (h : ∀ m ∈ cl, m ≠ l → UP F A (-m)) : UP F A l
def Conf (F : List (List Int)) (A : Int → Prop) : Prop := ∃ cl ∈ F, ∀ m ∈ cl, UP F A (-m)
def Fol (F : List (List Int)) (line : List Int) : Prop := (∃ l ∈ line, -l ∈ line) ∨ Conf F (fun l => -l ∈ line)
section
variable {F F' : List (List Int)} {A A' : Int → Prop}
theorem UP.mono (hF : ∀ cl ∈ F, cl ∈ F') (hA : ∀ l, A l → A' l) {l : Int} (h : UP F A l) : UP F' A' l := by
  induction h with
  | asm h => exact .asm (hA _ h)
  | unit hc hl _ ih => exact .unit (hF _ hc) hl ih
theorem Conf.mono (hF : ∀ cl ∈ F, cl ∈ F') (hA : ∀ l, A l → A' l) (h : Conf F A) : Conf F' A' := by
  obtain ⟨cl, hc, h⟩ := h
  exact ⟨cl, hF _ hc, fun m hm => (h m hm).mono hF hA⟩
theorem UP.closed {T : Int → Prop} (hA : ∀ l, A l → T l) (hT : ∀ cl ∈ F, ∀ l ∈ cl, (∀ m ∈ cl, m ≠ l → T (-m)) → T l) {l : Int} (h : UP F A l) : T l := by
  induction h with
  | asm h => exact hA _ h
  | unit hc hl _ ih => exact hT _ hc _ hl ih
theorem UP.clash {l : Int} (h1 : UP F A l) (h2 : UP F A (-l)) : Conf F A ∨ ∃ l, A l ∧ A (-l) := by
  cases h1 with
  | asm a =>
    cases h2 with
    | asm b => exact .inr ⟨l, a, b⟩
    | unit hc hl ih =>
      refine .inl ⟨_, hc, fun m hm => ?_⟩
      by_cases e : m = -l
      · subst e; rw [Int.neg_neg]; exact .asm a
      · exact ih m hm e
  | unit hc hl ih =>
    refine .inl ⟨_, hc, fun m hm => ?_⟩
    by_cases e : m = l
    · subst e; exact h2
    · exact ih m hm e
theorem Fol.of_clash {line : List Int} (h : Conf F (fun l => -l ∈ line) ∨ ∃ l, -l ∈ line ∧ -(-l) ∈ line) : Fol F line := by
  rcases h with h | ⟨l, h1, h2⟩
  · exact .inr h
  · exact .inl ⟨-l, h1, h2⟩
end
/-! ## a Units, plain -/
/-- what each place of the store is to a Units -/
inductive Role where | no | u | w | t | tr | row | lf | wl (l : Int)
deriving DecidableEq
structure UG where
  w : Nat
  t : Nat
  tr : Nat
  role : Nat → Role
  wl : Int → Option Nat
  wr : Int → List Nat
  row : Nat → List Int
  RH : List Nat
  trail : List Int
  gone : Nat
  broken : Bool
abbrev dIs (ns : List Int) : List D := ns.map D.int
abbrev dHs (ns : List Nat) : List D := ns.map D.hdl
def tkv (tr : List Int) : List (Key × D) := tr.flatMap fun l => [(.inl l, .bl true), (.inl (-l), .bl false)]
abbrev kOf (l : Int) : Key := .inl l
/-- how a Units stands in the store; cells under base are none of its own -/
structure Shape (C : Addr) (S : List Int) (st : Sto) (u base : Nat) (g : UG) : Prop where
  hu : st[u]? = some (.ins C [(0, .hdl g.w), (1, .hdl g.t), (2, .hdl g.tr), (3, .int g.gone), (4, .bl g.broken)])
  hw : ∃ ws, st[g.w]? = some (.dK ws) ∧ (∀ l, valD ws (.inl l) = (g.wl l).map D.hdl) ∧ (ws.map (·.1)).Nodup ∧ ∀ k ∈ ws.map (·.1), ∃ l ∈ S, k = .inl l
  ht : st[g.t]? = some (.dK (tkv g.trail))
  htr : st[g.tr]? = some (.lst (dIs g.trail))
  hwl : ∀ l j, g.wl l = some j → st[j]? = some (.lst (dHs (g.wr l))) ∧ g.role j = .wl l
  hwn : ∀ l, g.wl l = none → g.wr l = []
  hrow : ∀ h ∈ g.RH, st[h]? = some (.lst (dIs (g.row h))) ∧ g.role h = .row
  ru : g.role u = .u
  rw : g.role g.w = .w
  rt : g.role g.t = .t
  rtr : g.role g.tr = .tr
  own : ∀ k, g.role k ≠ .no → base ≤ k ∧ k < st.length
  bd : S.length < 1000000
/-- cells under base are as they were -/
structure Fr (base : Nat) (st st' : Sto) : Prop where
  len : st.length ≤ st'.length
  get : ∀ k, k < base → st'[k]? = st[k]?
theorem Fr.refl {base : Nat} {st : Sto} : Fr base st st := ⟨Nat.le_refl _, fun _ _ => rfl⟩
theorem Fr.trans {base : Nat} {a b c : Sto} (h : Fr base a b) (h' : Fr base b c) : Fr base a c := ⟨Nat.le_trans h.len h'.len, fun k hk => (h'.get k hk).trans (h.get k hk)⟩
theorem Fr.set {base : Nat} {st st' : Sto} {k : Nat} {c : Cell} (h : Fr base st st') (hk : base ≤ k) : Fr base st (st'.set k c) :=
  ⟨by rw [List.length_set]; exact h.len, fun j hj => by rw [List.getElem?_set_ne (by omega)]; exact h.get j hj⟩
theorem Fr.app {base : Nat} {st st' : Sto} {cs : List Cell} (hb : base ≤ st'.length) (h : Fr base st st') : Fr base st (st' ++ cs) :=
  ⟨by rw [List.length_append]; exact Nat.le_trans h.len (by omega), fun j hj => by rw [List.getElem?_append_left (by omega)]; exact h.get j hj⟩
/-- the two watched -/
def Pair (r : List Int) (a b : Int) : Prop := (r[0]? = some a ∧ r[1]? = some b) ∨ (r[0]? = some b ∧ r[1]? = some a)
def Wat (r : List Int) (a : Int) : Prop := r[0]? = some a ∨ r[1]? = some a
/-- what always holds of a Units; F: the clauses, t0: the ground trail -/
structure Core (F : List (List Int)) (S : List Int) (t0 : List Int) (g : UG) : Prop where
  nd : g.trail.Nodup
  cons : ∀ l ∈ g.trail, -l ∉ g.trail
  inS : ∀ l ∈ g.trail, l ∈ S
  pre : t0 <+: g.trail
  gl : g.gone ≤ g.trail.length
  rnd : ∀ h ∈ g.RH, (g.row h).Nodup ∧ 2 ≤ (g.row h).length ∧ ∀ l ∈ g.row h, l ∈ S ∧ -l ∈ S ∧ l ≠ 0
  rF : ∀ h ∈ g.RH, ∃ cl ∈ F, (∀ l ∈ g.row h, l ∈ cl) ∧ ∀ m ∈ cl, m ∉ g.row h → -m ∈ t0
  RHnd : g.RH.Nodup
  RHb : g.RH.length < 1000000
  iB : ∀ h ∈ g.RH, ∀ a b, Pair (g.row h) a b → -a ∈ t0 → b ∈ t0
  ng : ∀ l ∈ S, -l ∈ S
/-- the watchers are listed -/
def Listed (g : UG) : Prop := ∀ l, (g.wr l).Nodup ∧ ∀ h, h ∈ g.wr l ↔ h ∈ g.RH ∧ Wat (g.row h) l
/-- a watched that went false has a true other -/
def Watched (g : UG) : Prop := ∀ h ∈ g.RH, ∀ a b, Pair (g.row h) a b → -a ∈ g.trail.take g.gone → b ∈ g.trail
def Sound (F : List (List Int)) (A : Int → Prop) (g : UG) : Prop := ∀ l ∈ g.trail, UP F A l
/-- every clause is met or has its row -/
def Cover (F : List (List Int)) (t1 : List Int) (g : UG) : Prop := ∀ cl ∈ F, (∃ l ∈ cl, l ∈ t1) ∨ ∃ h ∈ g.RH, ∀ l ∈ g.row h, l ∈ cl
theorem Pair.symm {r : List Int} {a b : Int} (h : Pair r a b) : Pair r b a := h.elim .inr .inl
/-- at rest, what is true is closed, and nothing clashes -/
theorem rest_closed {F : List (List Int)} {S t0 t1 : List Int} {g : UG} (c : Core F S t0 g) (w : Watched g) (cv : Cover F t1 g) (h1 : ∀ l ∈ t1, l ∈ g.trail) (hg : g.gone = g.trail.length) :
    (∀ cl ∈ F, ∀ l ∈ cl, (∀ m ∈ cl, m ≠ l → -m ∈ g.trail) → l ∈ g.trail) ∧ ∀ cl ∈ F, ¬ ∀ m ∈ cl, -m ∈ g.trail := by
  have tk : g.trail.take g.gone = g.trail := by rw [hg, List.take_length]
  have key : ∀ h ∈ g.RH, ∀ a b, Pair (g.row h) a b → -a ∈ g.trail → b ∈ g.trail := fun h hh a b p q => w h hh a b p (by rw [tk]; exact q)
  have two : ∀ h ∈ g.RH, ∃ a b, Pair (g.row h) a b ∧ a ≠ b ∧ a ∈ g.row h ∧ b ∈ g.row h := by
    intro h hh
    obtain ⟨n, l2, _⟩ := c.rnd h hh
    refine ⟨(g.row h)[0], (g.row h)[1], .inl ⟨List.getElem?_eq_getElem _, List.getElem?_eq_getElem _⟩, ?_, List.getElem_mem _, List.getElem_mem _⟩
    intro e
    exact absurd ((List.getElem_inj n).mp e) (by decide)
  refine ⟨fun cl hc l hl hm => ?_, fun cl hc hm => ?_⟩
  · rcases cv cl hc with ⟨k, hk, hkt⟩ | ⟨h, hh, hs⟩
    · by_cases e : k = l
      · exact e ▸ h1 _ hkt
      · exact absurd (hm k hk e) (c.cons k (h1 _ hkt))
    · obtain ⟨a, b, p, ne, ha, hb⟩ := two h hh
      by_cases ea : a = l
      · have : b ≠ l := fun e => ne (ea.trans e.symm)
        exact ea ▸ key h hh b a p.symm (hm b (hs b hb) this)
      · have q := key h hh a b p (hm a (hs a ha) ea)
        by_cases eb : b = l
        · exact eb ▸ q
        · exact absurd (hm b (hs b hb) eb) (c.cons b q)
  · rcases cv cl hc with ⟨k, hk, hkt⟩ | ⟨h, hh, hs⟩
    · exact c.cons k (h1 _ hkt) (hm k hk)
    · obtain ⟨a, b, p, ne, ha, hb⟩ := two h hh
      exact c.cons b (key h hh a b p (hm a (hs a ha))) (hm b (hs b hb))
/-! ### the truths' dict -/
theorem valD_tkv : ∀ {tr : List Int} (l : Int), (∀ l ∈ tr, -l ∉ tr) → valD (tkv tr) (.inl l) = if l ∈ tr then some (.bl true) else if -l ∈ tr then some (.bl false) else none
  | [], l, _ => by simp [tkv, valD]
  | x :: tr, l, h => by
    have ih := valD_tkv (tr := tr) l fun y hy q => h y (by simp [hy]) (by simp [q])
    have hx : x ≠ -x := fun e => h x (by simp) (by rw [← e]; simp)
    have e1 : valD (tkv (x :: tr)) (.inl l) = if x = l then some (.bl true) else if -x = l then some (.bl false) else valD (tkv tr) (.inl l) := by
      unfold valD tkv
      simp only [List.flatMap_cons, List.cons_append, List.nil_append, List.find?_cons]
      by_cases a : x = l
      · simp [a]
      · by_cases b : -x = l
        · simp [a, b]
        · simp [a, b]
    rw [e1]
    by_cases a : x = l
    · simp [a]
    · by_cases b : -x = l
      · have : ¬ l ∈ tr := fun q => h x (by simp) (by simp [b, q])
        have c : -l = x := by omega
        rw [if_neg a, if_pos b]
        simp [this, c, Ne.symm a]
      · rw [if_neg a, if_neg b, ih]
        have a' : ¬ l = x := fun q => a q.symm
        have b' : ¬ -l = x := fun q => b (by omega)
        simp [a', b']
theorem tkv_length (tr : List Int) : (tkv tr).length = 2 * tr.length := by
  induction tr with
  | nil => rfl
  | cons x tr ih => simp only [tkv, List.flatMap_cons, List.length_append, List.length_cons, List.length_nil] at ih ⊢; omega
theorem putD_new {kvs : List (Key × D)} {k : Key} {v : D} (h : valD kvs k = none) : putD kvs k v = kvs ++ [(k, v)] := by
  unfold putD
  have : (kvs.any fun kv => decide (kv.1 = k)) = false := by
    unfold valD at h
    simp only [Option.map_eq_none_iff, List.find?_eq_none] at h
    rw [List.any_eq_false]
    exact h
  rw [this]; rfl
theorem valD_app {kvs : List (Key × D)} {k k' : Key} {v : D} : valD (kvs ++ [(k', v)]) k = match valD kvs k with | some d => some d | none => if k' = k then some v else none := by
  unfold valD
  rw [List.find?_append]
  cases h : kvs.find? fun kv => decide (kv.1 = k) with
  | some x => simp
  | none =>
    by_cases e : k' = k
    · simp [e]
    · simp [e]
theorem tkv_snoc (tr : List Int) (l : Int) : tkv (tr ++ [l]) = tkv tr ++ [(.inl l, .bl true)] ++ [(.inl (-l), .bl false)] := by
  simp [tkv]
theorem dropD_tkv {a b : List Int} {x : Int} (h1 : ∀ y ∈ a ++ b, y ≠ x ∧ y ≠ -x) : dropD (dropD (tkv (a ++ x :: b)) (.inl x)) (.inl (-x)) = tkv (a ++ b) := by
  have key : ∀ c : List Int, (∀ y ∈ c, y ≠ x ∧ y ≠ -x) → dropD (dropD (tkv c) (.inl x)) (.inl (-x)) = tkv c := by
    intro c hc
    unfold dropD
    rw [List.filter_eq_self.mpr, List.filter_eq_self.mpr]
    · intro kv hkv
      simp only [tkv, List.mem_flatMap, List.mem_cons, List.not_mem_nil, or_false] at hkv
      obtain ⟨y, hy, hkv⟩ := hkv
      obtain ⟨p, q⟩ := hc y hy
      rcases hkv with rfl | rfl <;> simp <;> omega
    · intro kv hkv
      rw [List.filter_eq_self.mpr] at hkv
      · simp only [tkv, List.mem_flatMap, List.mem_cons, List.not_mem_nil, or_false] at hkv
        obtain ⟨y, hy, hkv⟩ := hkv
        obtain ⟨p, q⟩ := hc y hy
        rcases hkv with rfl | rfl <;> simp <;> omega
      · intro kv hkv
        simp only [tkv, List.mem_flatMap, List.mem_cons, List.not_mem_nil, or_false] at hkv
        obtain ⟨y, hy, hkv⟩ := hkv
        obtain ⟨p, q⟩ := hc y hy
        rcases hkv with rfl | rfl <;> simp <;> omega
  have e : tkv (a ++ x :: b) = tkv a ++ ([(.inl x, .bl true), (.inl (-x), .bl false)] ++ tkv b) := by simp [tkv]
  have e2 : tkv (a ++ b) = tkv a ++ tkv b := by simp [tkv]
  have ka := key a fun y hy => h1 y (by simp [hy])
  have kb := key b fun y hy => h1 y (by simp [hy])
  rw [e, e2]
  unfold dropD at ka kb ⊢
  rw [List.filter_append, List.filter_append, List.filter_append, List.filter_append, ka, kb]
  congr 1
  have : ∀ p : Key × D, p = (.inl x, .bl true) ∨ p = (.inl (-x), .bl false) → True := fun _ _ => trivial
  by_cases hx : -x = x <;> simp [hx]
end DL



set_option Elab.async false
set_option linter.all false
set_option maxRecDepth 100000
set_option autoImplicit false
namespace DL
open PySem PySem.Spec PyProof.Rows L2
structure Cl where
  Units : Addr
  ProofError : Addr
  NoPaper : Addr
  NoForm : Addr
  NoKind : Addr
  NoLevel : Addr
  NoModel : Addr
  NoName : Addr
  NoTerm : Addr
  NoText : Addr
  NoWord : Addr
  NoneYet : Addr
  TooLong : Addr
  TooMany : Addr
  Twice : Addr
/-! ## ghosts: stores -/
/-- all cells but b's are as they were -/
structure ExB (b : Nat) (st st' : Sto) : Prop where
  len : st.length ≤ st'.length
  get : ∀ k, k < st.length → k ≠ b → st'[k]? = st[k]?
/-- the draws' bag: at most n draws so far -/
def BagC (n : Nat) (cell : Cell) : Prop := ∃ (ns : List Int) (p z q t : Int), cell = .lst [.lst (dIs ns), .int p, .int z, .int q, .int t] ∧ 0 ≤ p ∧ p ≤ ns.length ∧ 0 ≤ q ∧ q ≤ n ∧ 0 ≤ t ∧ t < 2305843009213693951
def Bag (st : Sto) (b : Nat) (n : Nat) : Prop := ∃ cell, st[b]? = some cell ∧ BagC n cell
structure BX (b : Nat) (st : Sto) (n : Nat) (st' : Sto) : Prop where
  ex : ExB b st st'
  bag : Bag st' b n
/-- data, or a handle under b, of a list of these -/
def QAt (b : Nat) (st : Sto) (d : D) (xs : List D) : Prop := d = .lst xs ∨ d = .tup xs ∨ ∃ k, k < b ∧ d = .hdl k ∧ st[k]? = some (.lst xs)
def QRows (b : Nat) (st : Sto) : List D → List (List Int) → Prop
  | [], [] => True
  | x :: xs, r :: rs => QAt b st x (dIs r) ∧ QRows b st xs rs
  | _, _ => False
def Rowsd (b : Nat) (st : Sto) (d : D) (rows : List (List Int)) : Prop := ∃ xs, QAt b st d xs ∧ QRows b st xs rows
theorem QAt.fr {b b' : Nat} {st st' : Sto} {d : D} {xs : List D} (h : QAt b st d xs) (l : b ≤ b') (f : ∀ k, k < b → st'[k]? = st[k]?) : QAt b' st' d xs := by
  rcases h with h | h | ⟨k, h1, h2, h3⟩
  · exact .inl h
  · exact .inr (.inl h)
  · exact .inr (.inr ⟨k, Nat.lt_of_lt_of_le h1 l, h2, (f k h1).trans h3⟩)
theorem QRows.fr {b b' : Nat} {st st' : Sto} (l : b ≤ b') (f : ∀ k, k < b → st'[k]? = st[k]?) : ∀ {xs : List D} {rs : List (List Int)}, QRows b st xs rs → QRows b' st' xs rs
  | [], [], _ => trivial
  | [], _ :: _, h => h.elim
  | _ :: _, [], h => h.elim
  | _ :: _, _ :: _, h => ⟨h.1.fr l f, QRows.fr l f h.2⟩
theorem Rowsd.fr {b b' : Nat} {st st' : Sto} {d : D} {rows : List (List Int)} (h : Rowsd b st d rows) (l : b ≤ b') (f : ∀ k, k < b → st'[k]? = st[k]?) : Rowsd b' st' d rows :=
  let ⟨xs, h1, h2⟩ := h; ⟨xs, h1.fr l f, QRows.fr l f h2⟩
theorem QRows.len {b : Nat} {st : Sto} : ∀ {xs : List D} {rs : List (List Int)}, QRows b st xs rs → xs.length = rs.length
  | [], [], _ => rfl
  | [], _ :: _, h => h.elim
  | _ :: _, [], h => h.elim
  | _ :: _, _ :: _, h => by simp [QRows.len h.2]
theorem QRows.app {b : Nat} {st : Sto} : ∀ {xs ys : List D} {rs ss : List (List Int)}, QRows b st xs rs → QRows b st ys ss → QRows b st (xs ++ ys) (rs ++ ss)
  | [], _, [], _, _, h => h
  | [], _, _ :: _, _, h, _ => h.elim
  | _ :: _, _, [], _, h, _ => h.elim
  | _ :: _, _, _ :: _, _, h, h' => ⟨h.1, QRows.app h.2 h'⟩
theorem QRows.snoc {b : Nat} {st : Sto} {xs : List D} {rs : List (List Int)} {d : D} {r : List Int} (h : QRows b st xs rs) (q : QAt b st d (dIs r)) : QRows b st (xs ++ [d]) (rs ++ [r]) := h.app ⟨q, trivial⟩
theorem QRows.take {b : Nat} {st : Sto} : ∀ (n : Nat) {xs : List D} {rs : List (List Int)}, QRows b st xs rs → QRows b st (xs.take n) (rs.take n)
  | 0, _, _, _ => by simp [QRows]
  | _ + 1, [], [], _ => trivial
  | _ + 1, [], _ :: _, h => h.elim
  | _ + 1, _ :: _, [], h => h.elim
  | n + 1, _ :: _, _ :: _, h => ⟨h.1, QRows.take n h.2⟩
theorem QRows.drop {b : Nat} {st : Sto} : ∀ (n : Nat) {xs : List D} {rs : List (List Int)}, QRows b st xs rs → QRows b st (xs.drop n) (rs.drop n)
  | 0, _, _, h => h
  | _ + 1, [], [], _ => trivial
  | _ + 1, [], _ :: _, h => h.elim
  | _ + 1, _ :: _, [], h => h.elim
  | n + 1, _ :: _, _ :: _, h => QRows.drop n h.2
theorem QRows.get {b : Nat} {st : Sto} : ∀ {xs : List D} {rs : List (List Int)} (i : Nat) {r : List Int}, QRows b st xs rs → rs[i]? = some r → ∃ x, xs[i]? = some x ∧ QAt b st x (dIs r)
  | [], [], _, _, _, e => by simp at e
  | [], _ :: _, _, _, h, _ => h.elim
  | _ :: _, [], _, _, h, _ => h.elim
  | x :: _, _ :: _, 0, _, h, e => by simp at e; subst e; exact ⟨x, by simp, h.1⟩
  | _ :: _, _ :: _, i + 1, _, h, e => by
    obtain ⟨x, h1, h2⟩ := QRows.get i h.2 (by simpa using e)
    exact ⟨x, by simpa using h1, h2⟩
theorem QRows.lst {b : Nat} {st : Sto} : ∀ rows : List (List Int), QRows b st (rows.map fun r => D.lst (r.map D.int)) rows
  | [] => trivial
  | _ :: rs => ⟨.inl rfl, QRows.lst rs⟩
theorem QAt.lt_hdl {b : Nat} {st : Sto} {d : D} {xs : List D} (h : QAt b st d xs) (k : Nat) (e : d = .hdl k) : k < b ∧ st[k]? = some (.lst xs) := by
  rcases h with h | h | ⟨j, h1, h2, h3⟩
  · rw [h] at e; cases e
  · rw [h] at e; cases e
  · rw [h2] at e; cases e; exact ⟨h1, h3⟩
theorem dIt_q {b : Nat} {d : D} {xs : List D} {st : Sto} {k : List D → (Sto → Prop) → Sto → Prop} (h : QAt b st d xs) (hk : ∀ inv : Sto → Prop, (∀ st' : Sto, (∀ k, k < b → st'[k]? = st[k]?) → inv st') → k xs inv st) : dIt d st k := by
  rcases h with rfl | rfl | ⟨j, h1, rfl, h3⟩
  · exact dIt_l (hk _ fun _ _ => trivial)
  · exact dIt_t (hk _ fun _ _ => trivial)
  · exact dIt_h h3 (hk _ fun st' f => (f j h1).trans h3)
theorem QAt.drs {b : Nat} {st : Sto} {d : D} {xs : List D} (h : QAt b st d xs) : dr st d = .lst xs ∨ dr st d = .scr xs ∨ dr st d = .tup xs := by
  rcases h with rfl | rfl | ⟨j, h1, rfl, h3⟩
  · exact .inl rfl
  · exact .inr (.inr rfl)
  · exact .inl (dr_hdl h3)
/-- rows none of whose handles is b -/
def RowsB (b : Nat) (st : Sto) (d : D) (rows : List (List Int)) : Prop := ∃ xs, QAt st.length st d xs ∧ d ≠ .hdl b ∧ QRows st.length st xs rows ∧ ∀ x ∈ xs, x ≠ .hdl b
theorem QAt.bx {b n : Nat} {st st' : Sto} {d : D} {xs : List D} (h : QAt st.length st d xs) (hb : d ≠ .hdl b) (x : ExB b st st') : QAt st'.length st' d xs := by
  rcases h with h | h | ⟨k, h1, h2, h3⟩
  · exact .inl h
  · exact .inr (.inl h)
  · exact .inr (.inr ⟨k, Nat.lt_of_lt_of_le h1 x.len, h2, (x.get k h1 fun e => hb (by rw [h2, e])).trans h3⟩)
theorem QRows.bx {b : Nat} {st st' : Sto} (x : ExB b st st') : ∀ {xs : List D} {rs : List (List Int)}, QRows st.length st xs rs → (∀ y ∈ xs, y ≠ .hdl b) → QRows st'.length st' xs rs
  | [], [], _, _ => trivial
  | [], _ :: _, h, _ => h.elim
  | _ :: _, [], h, _ => h.elim
  | y :: _, _ :: _, h, hb => ⟨h.1.bx (n := 0) (hb y (by simp)) x, QRows.bx x h.2 fun z hz => hb z (by simp [hz])⟩
theorem RowsB.bx {b : Nat} {st st' : Sto} {d : D} {rows : List (List Int)} (h : RowsB b st d rows) (x : ExB b st st') : RowsB b st' d rows :=
  let ⟨xs, h1, h2, h3, h4⟩ := h; ⟨xs, h1.bx (n := 0) h2 x, h2, QRows.bx x h3 h4, h4⟩
theorem RowsB.rd {b : Nat} {st : Sto} {d : D} {rows : List (List Int)} (h : RowsB b st d rows) : Rowsd st.length st d rows := let ⟨xs, h1, _, h3, _⟩ := h; ⟨xs, h1, h3⟩
theorem RowsB.lst {b : Nat} {st : Sto} (rows : List (List Int)) : RowsB b st (.lst (rows.map fun r => D.lst (r.map D.int))) rows :=
  ⟨_, .inl rfl, (fun e => by cases e), QRows.lst rows, fun x hx => by obtain ⟨r, _, rfl⟩ := List.mem_map.mp hx; exact fun e => by cases e⟩
/-- lists alone, no tuples: rows that == tells alike -/
def RowsL (b : Nat) (st : Sto) (d : D) (rows : List (List Int)) : Prop := ∃ xs, QAt st.length st d xs ∧ d ≠ .hdl b ∧ QRows st.length st xs rows ∧ (∀ x ∈ xs, x ≠ .hdl b) ∧ (∀ ys, d ≠ .tup ys) ∧ ∀ x ∈ xs, ∀ ys, x ≠ .tup ys
theorem RowsL.nt {b : Nat} {st : Sto} {d : D} {rows : List (List Int)} (h : RowsL b st d rows) : ∀ ys, d ≠ .tup ys := let ⟨_, _, _, _, _, h, _⟩ := h; h
abbrev dRows (rows : List (List Int)) : List D := rows.map fun r => D.lst (dIs r)
/-- between calls -/
structure Ready (F : List (List Int)) (S : List Int) (g : UG) : Prop where
  cons : ∀ l ∈ g.trail, -l ∉ g.trail
  ok : g.broken = false → Core F S g.trail g ∧ Listed g ∧ Watched g ∧ Cover F g.trail g ∧ g.gone = g.trail.length ∧ Sound F (fun _ => False) g
  bad : g.broken = true → Conf F (fun _ => False)
  nlf : ∀ k, g.role k ≠ .lf
/-- what a call of a Units leaves: other places of the Units' roles, local lists -/
structure Step (g g' : UG) (st st' : Sto) (base : Nat) : Prop where
  fr : Fr base st st'
  role : ∀ k, g.role k = .lf → g'.role k = .lf ∧ st'[k]? = st[k]?
  lf : ∀ k, g'.role k = .lf → g.role k = .lf
def okS (S : List Int) : Prop := S.length < 1000000 ∧ ∀ l ∈ S, -l ∈ S
def okLits (S : List Int) (ns : List Int) : Prop := ∀ l ∈ ns, l ∈ S ∧ -l ∈ S ∧ l ≠ 0
/-- a row's watch has gone elsewhere -/
structure Mv (g g' : UG) (h : Nat) (l a x : Int) : Prop where
  p : Pair (g.row h) l a
  p' : Pair (g'.row h) a x
  hx : x ∈ g.row h
  xl : x ≠ l
  xa : x ≠ a
  nx : -x ∉ g.trail
  perm : (g'.row h).Perm (g.row h)
  rows : ∀ k, k ≠ h → g'.row k = g.row k
  wx : g'.wr x = g.wr x ++ [h]
  wo : ∀ y, y ≠ x → g'.wr y = g.wr y
  wl : ∀ y, g.wl y ≠ none → g'.wl y = g.wl y
  RH : g'.RH = g.RH
  trail : g'.trail = g.trail
  gone : g'.gone = g.gone
  broken : g'.broken = g.broken
/-- all others of a row are false -/
structure Nm (g g' : UG) (h : Nat) (l a : Int) : Prop where
  p : Pair (g.row h) l a
  p0 : (g'.row h)[0]? = some a
  p1 : (g'.row h)[1]? = some l
  perm : (g'.row h).Perm (g.row h)
  fa : ∀ m ∈ g.row h, m ≠ a → m ≠ l → -m ∈ g.trail
  rows : ∀ k, k ≠ h → g'.row k = g.row k
  wr : g'.wr = g.wr
  wl : g'.wl = g.wl
  RH : g'.RH = g.RH
  trail : g'.trail = g.trail
  gone : g'.gone = g.gone
  broken : g'.broken = g.broken
/-! ## promises -/
def sp_law_bag (c : Cl) : DSp := fun ds st R xq => ∃ ns : List Int, ds = [.scr (dIs ns)] ∧ ns.length ≤ 1000 ∧ ∀ cell, BagC 0 cell → R (.hdl st.length) (st ++ [cell])
def sp_law_stir (c : Cl) : DSp := fun ds st R xq => ∃ a b : Int, ds = [.int a, .int b] ∧ 0 ≤ a ∧ a < 2305843009213693951 ∧ 0 ≤ b ∧ b < 2 ^ 60 ∧ ∀ r : Int, R (.int r) st
def sp_law_draw (c : Cl) : DSp := fun ds st R xq => ∃ (b : Nat) (m : Int) (n : Nat), ds = [.hdl b, .int m] ∧ Bag st b n ∧ 0 < m ∧ m < 2 ^ 100 ∧ n + 1 < 2 ^ 60 ∧ ∀ (r : Int) (st' : Sto), 0 ≤ r → r < m → BX b st (n + 1) st' → R (.int r) st'
def sp_law_variables (c : Cl) : DSp := fun ds st R xq => ∃ (b : Nat) (m : Int) (n : Nat), ds = [.hdl b, .int m] ∧ Bag st b n ∧ 0 < m ∧ m < 100 ∧ n + 300 < 2 ^ 60 ∧ ∀ (vs : List Int) (st' : Sto), vs.length = m.toNat → (∀ v ∈ vs, 0 < v ∧ v < 2 ^ 150) → vs.Nodup → BX b st (n + 300) st' → R (.lst (dIs vs)) st'
def sp_law_literal (c : Cl) : DSp := fun ds st R xq => ∃ (b : Nat) (vs : List Int) (n : Nat), ds = [.hdl b, .lst (dIs vs)] ∧ Bag st b n ∧ vs ≠ [] ∧ vs.length ≤ 1000 ∧ (∀ v ∈ vs, 0 < v ∧ v < 2 ^ 150) ∧ n + 2 < 2 ^ 60 ∧ ∀ (l : Int) (st' : Sto), (l ∈ vs ∨ -l ∈ vs) → BX b st (n + 2) st' → R (.int l) st'
def sp_law_clause (c : Cl) : DSp := fun ds st R xq => ∃ (b : Nat) (vs : List Int) (k : Int) (n : Nat), ds = [.hdl b, .lst (dIs vs), .int k] ∧ Bag st b n ∧ vs ≠ [] ∧ vs.length ≤ 1000 ∧ (∀ v ∈ vs, 0 < v ∧ v < 2 ^ 150) ∧ 0 ≤ k ∧ k ≤ 1000 ∧ n + 3000 < 2 ^ 60 ∧ ∀ (ls : List Int) (st' : Sto), ls.length ≤ k → (∀ l ∈ ls, l ∈ vs ∨ -l ∈ vs) → BX b st (n + 3000) st' → R (.lst (dIs ls)) st'
def sp_law_shuffled (c : Cl) : DSp := fun ds st R xq => ∃ (b : Nat) (d : D) (xs : List D) (n : Nat), ds = [.hdl b, d] ∧ Bag st b n ∧ d ≠ .hdl b ∧ dr st d = .lst xs ∧ xs.length ≤ 5000 ∧ n + 10000 < 2 ^ 60 ∧ ∀ (ys : List D) (st' : Sto), ys.Perm xs → BX b st (n + 10000) st' → R (.lst ys) st'
def sp_law_clash (c : Cl) : DSp := fun ds st R xq => ∃ (d : D) (t : Nat) (rows : List (List Int)) (ts : List Int) (S : List Int), ds = [d, .hdl t] ∧ Rowsd t st d rows ∧ st[t]? = some (.dK (ts.map fun l => (.inl l, .bl true))) ∧ ts.Nodup ∧ (∀ l ∈ ts, l ∈ S) ∧ (∀ r ∈ rows, r.length ≤ 4000 ∧ ∀ l ∈ r, l ∈ S) ∧ S.length < 1000000 ∧ ∀ (b : Bool) (st' : Sto), (b = true ↔ Conf rows (fun l => l ∈ ts)) → (∀ k, k < st.length → st'[k]? = st[k]?) → st.length ≤ st'.length → R (.bl b) st'
def sp_law_follows (c : Cl) : DSp := fun ds st R xq => ∃ (d dl : D) (rows : List (List Int)) (line : List Int) (S : List Int), ds = [d, dl] ∧ Rowsd st.length st d rows ∧ QAt st.length st dl (dIs line) ∧ (∀ r ∈ rows, r.length ≤ 4000 ∧ okLits S r) ∧ okLits S line ∧ S.length < 1000000 ∧ ∀ (b : Bool) (st' : Sto), (b = true ↔ Fol rows line) → (∀ k, k < st.length → st'[k]? = st[k]?) → st.length ≤ st'.length → R (.bl b) st'
def sp_law_formed (c : Cl) : DSp := fun ds st R xq => ∃ (b : Nat) (d : D) (rows : List (List Int)) (n : Nat), ds = [.hdl b, d] ∧ Bag st b n ∧ RowsB b st d rows ∧ n + 1 < 2 ^ 60 ∧ rows.length ≤ 1000000 ∧ ∀ (d' : D) (st' : Sto), Rowsd 0 st' d' rows → BX b st (n + 1) st' → R d' st'
def PaperP : List (List Int) → List (List Int) → Prop
  | _, [] => True
  | F, l :: ls => Fol F l ∧ PaperP (F ++ [l]) ls
/-- the lines are a paper that refutes these -/
def RefP (F ls : List (List Int)) (as : List Int) : Prop := ∃ ms l, ls = ms ++ [l] ∧ (∀ x ∈ l, -x ∈ as) ∧ PaperP F ls
def sp_law_is_paper (c : Cl) : DSp := fun ds st R xq => ∃ (d dl : D) (rows lines : List (List Int)) (S : List Int), ds = [d, dl] ∧ Rowsd st.length st d rows ∧ Rowsd st.length st dl lines ∧ (∀ r ∈ rows, r.length ≤ 4000 ∧ okLits S r) ∧ (∀ r ∈ lines, r.length ≤ 4000 ∧ okLits S r) ∧ rows.length + lines.length < 1000000 ∧ S.length < 1000000 ∧ ∀ (b : Bool) (st' : Sto), (b = true ↔ PaperP rows lines) → (∀ k, k < st.length → st'[k]? = st[k]?) → st.length ≤ st'.length → R (.bl b) st'
def sp_law_refutes (c : Cl) : DSp := fun ds st R xq => ∃ (d dl da : D) (rows lines : List (List Int)) (as S : List Int), ds = [d, dl, da] ∧ Rowsd st.length st d rows ∧ Rowsd st.length st dl lines ∧ QAt st.length st da (dIs as) ∧ (∃ b, RowsL b st dl lines) ∧ as.length < 1000000 ∧ (∀ r ∈ rows, r.length ≤ 4000 ∧ okLits S r) ∧ (∀ r ∈ lines, r.length ≤ 4000 ∧ okLits S r) ∧ rows.length + lines.length < 1000000 ∧ S.length < 1000000 ∧ ∀ (b : Bool) (st' : Sto), (b = true ↔ RefP rows lines as) → (∀ k, k < st.length → st'[k]? = st[k]?) → st.length ≤ st'.length → R (.bl b) st'
def spUnits_take (c : Cl) : DSp := fun ds st R xq => ∃ (u base : Nat) (l : Int) (S : List Int) (g : UG), ds = [.hdl u, .int l] ∧ Shape c.Units S st u base g ∧ g.trail.Nodup ∧ (∀ l ∈ g.trail, -l ∉ g.trail) ∧ (∀ l ∈ g.trail, l ∈ S) ∧ l ≠ 0 ∧
  (-l ∈ g.trail → R (.bl false) st) ∧ (l ∈ g.trail → R (.bl true) st) ∧
  (l ∉ g.trail → -l ∉ g.trail → ∀ st', Shape c.Units S st' u base { g with trail := g.trail ++ [l] } → Step g g st st' base → R (.bl true) st')
def spUnits_moved (c : Cl) : DSp := fun ds st R xq => ∃ (u base h : Nat) (l : Int) (S : List Int) (g : UG), ds = [.hdl u, .hdl h, .int l] ∧ Shape c.Units S st u base g ∧ h ∈ g.RH ∧ (g.row h).Nodup ∧ 2 ≤ (g.row h).length ∧ (g.row h).length < 1000000 ∧ (∀ l ∈ g.row h, l ∈ S) ∧ Wat (g.row h) l ∧ (∀ l ∈ g.trail, -l ∉ g.trail) ∧ (∀ x, (g.wr x).length < 1000000) ∧
  (∀ g' st' a x, Mv g g' h l a x → Shape c.Units S st' u base g' → Step g g' st st' base → R (.bl true) st') ∧
  (∀ g' st' a, Nm g g' h l a → Shape c.Units S st' u base g' → Step g g' st st' base → R (.bl false) st')
def spUnits_spread (c : Cl) : DSp := fun ds st R xq => ∃ (u base : Nat) (F : List (List Int)) (A : Int → Prop) (S t0 : List Int) (g : UG), ds = [.hdl u] ∧ Shape c.Units S st u base g ∧ Core F S t0 g ∧ Listed g ∧ Watched g ∧ Sound F A g ∧ (∀ k, g.role k ≠ .lf) ∧
  ∀ (b : Bool) (g' : UG) (st' : Sto), Shape c.Units S st' u base g' → Fr base st st' → Core F S t0 g' → Listed g' → g.trail <+: g'.trail → (∀ h, (g'.row h).Perm (g.row h)) → g'.RH = g.RH → Sound F A g' → (b = true → g'.gone = g'.trail.length ∧ Watched g') → (b = false → Conf F A) → g'.broken = g.broken → (∀ k, g'.role k ≠ .lf) → R (.bl b) st'
def spUnits_follows (c : Cl) : DSp := fun ds st R xq => ∃ (u base : Nat) (F : List (List Int)) (S : List Int) (g : UG) (d : D) (ns : List Int), ds = [.hdl u, d] ∧ QAt base st d (dIs ns) ∧ Shape c.Units S st u base g ∧ Ready F S g ∧ okLits S ns ∧ ns.length < 1000000 ∧
  ∀ (b : Bool) (g' : UG) (st' : Sto), (b = true ↔ Fol F ns) → Shape c.Units S st' u base g' → Fr base st st' → Ready F S g' → g'.RH.length = g.RH.length → R (.bl b) st'
def spUnits_add_clause (c : Cl) : DSp := fun ds st R xq => ∃ (u base : Nat) (F : List (List Int)) (S : List Int) (g : UG) (d : D) (ns : List Int), ds = [.hdl u, d] ∧ QAt base st d (dIs ns) ∧ Shape c.Units S st u base g ∧ Ready F S g ∧ okLits S ns ∧ g.RH.length + 1 < 1000000 ∧
  ∀ (g' : UG) (st' : Sto), Shape c.Units S st' u base g' → Fr base st st' → Ready (F ++ [ns]) S g' → g'.RH.length ≤ g.RH.length + 1 → R .non st'
def spUnits_DinitD (c : Cl) : DSp := fun ds st R xq => ∃ (u : Nat) (S : List Int) (d : D) (rows : List (List Int)), ds = [.hdl u, d] ∧ Rowsd u st d rows ∧ st[u]? = some (.ins c.Units []) ∧ st.length = u + 1 ∧ (∀ r ∈ rows, okLits S r) ∧ okS S ∧ rows.length < 1000000 ∧
  ∀ (g' : UG) (st' : Sto), Shape c.Units S st' u u g' → Fr u st st' → Ready rows S g' → g'.RH.length ≤ rows.length → R .non st'
def spline_follows (c : Cl) : DSp := fun ds st R xq => ∃ (d dl : D) (rows : List (List Int)) (line : List Int) (S : List Int), ds = [d, dl] ∧ Rowsd st.length st d rows ∧ QAt st.length st dl (dIs line) ∧ (∀ r ∈ rows, okLits S r) ∧ okLits S line ∧ line.length < 1000000 ∧ okS S ∧ rows.length < 1000000 ∧ ∀ (b : Bool) (st' : Sto), (b = true ↔ Fol rows line) → (∀ k, k < st.length → st'[k]? = st[k]?) → st.length ≤ st'.length → R (.bl b) st'
def spall_follow (c : Cl) : DSp := fun ds st R xq => ∃ (d dl : D) (rows lines : List (List Int)) (S : List Int), ds = [d, dl] ∧ Rowsd st.length st d rows ∧ Rowsd st.length st dl lines ∧ (∀ r ∈ rows, okLits S r) ∧ (∀ r ∈ lines, okLits S r ∧ r.length < 1000000) ∧ okS S ∧ rows.length + lines.length < 1000000 ∧ ∀ (b : Bool) (st' : Sto), (b = true ↔ PaperP rows lines) → (∀ k, k < st.length → st'[k]? = st[k]?) → st.length ≤ st'.length → R (.bl b) st'
def sprefutes (c : Cl) : DSp := fun ds st R xq => ∃ (d dl da : D) (rows lines : List (List Int)) (as S : List Int), ds = [d, dl, da] ∧ Rowsd st.length st d rows ∧ Rowsd st.length st dl lines ∧ QAt st.length st da (dIs as) ∧ as.length < 1000000 ∧ (∀ r ∈ rows, okLits S r) ∧ (∀ r ∈ lines, okLits S r ∧ r.length < 1000000) ∧ okS S ∧ rows.length + lines.length < 1000000 ∧ ∀ (b : Bool) (st' : Sto), (b = true ↔ RefP rows lines as) → (∀ k, k < st.length → st'[k]? = st[k]?) → st.length ≤ st'.length → R (.bl b) st'

/-! ## papers' laws -/
def okV (vs r : List Int) : Prop := ∀ l ∈ r, l ∈ vs ∨ -l ∈ vs
/-- rows in another order, each in another order -/
def EachPerm : List (List Int) → List (List Int) → Prop
  | [], [] => True
  | x :: xs, z :: zs => x.Perm z ∧ EachPerm xs zs
  | _, _ => False
def RowsPerm (xs ys : List (List Int)) : Prop := ∃ zs : List (List Int), zs.Perm ys ∧ EachPerm xs zs
def allSigns (vs : List Int) : List (List Int) := vs.foldl (fun rows v => rows.map (fun r => r ++ [v]) ++ rows.map (fun r => r ++ [-v])) [[]]
def fullR (vs gs : List Int) : List (List Int) := (allSigns vs).map fun r => r ++ gs.map fun g => -g
def spis_paper (c : Cl) : DSp := fun ds st R xq => spall_follow c ds st R xq
def sp_law_full (c : Cl) : DSp := fun ds st R xq => ∃ (vs gs : List Int), ds = [.lst (dIs vs), .lst (dIs gs)] ∧ vs.length ≤ 8 ∧ gs.length ≤ 1000 ∧ R (.lst (dRows (fullR vs gs))) st
def sp_law_planted (c : Cl) : DSp := fun ds st R xq => ∃ (b n : Nat) (vs gs : List Int), ds = [.hdl b, .lst (dIs vs), .lst (dIs gs)] ∧ Bag st b n ∧ vs.length ≤ 7 ∧ gs.length ≤ 100 ∧ n + 20000000 < 2 ^ 60 ∧
  ∀ (h k : Nat) (cl : List (List Int)) (Ls : List (List (List Int))) (st' : Sto), st.length ≤ h → st.length ≤ k → h ≠ k → st'[h]? = some (.lst (dRows cl)) → st'[k]? = some (.lst (dRows Ls.flatten)) → RowsPerm cl (fullR vs gs) → Ls.length = vs.length → (∀ i, i < vs.length → ∃ L, Ls[i]? = some L ∧ RowsPerm L (fullR (vs.take (vs.length - 1 - i)) gs)) → BX b st (n + 20000000) st' → R (.tup [.hdl h, .hdl k]) st'
def sp_law_changed (c : Cl) : DSp := fun ds st R xq => ∃ (b n m : Nat) (d : D) (vs : List Int) (rows : List (List Int)), ds = [.hdl b, d, .lst (dIs vs)] ∧ Bag st b n ∧ RowsL b st d rows ∧ vs ≠ [] ∧ vs.length ≤ 1000 ∧ (∀ v ∈ vs, 0 < v ∧ v < 2 ^ 150) ∧ (∀ r ∈ rows, okV vs r ∧ r.length ≤ m) ∧ m ≤ 1000 ∧ rows.length ≤ 1000 ∧ n + 10000 < 2 ^ 60 ∧
  ∀ (h : Nat) (rows' : List (List Int)) (st' : Sto), st.length ≤ h → RowsL b st' (.hdl h) rows' → (∀ r ∈ rows', okV vs r ∧ r.length ≤ 2 * m + 4) → rows'.length ≤ rows.length + 1 → BX b st (n + 10000) st' → R (.hdl h) st'
theorem RowsL.b {b : Nat} {st : Sto} {d : D} {rows : List (List Int)} (h : RowsL b st d rows) : RowsB b st d rows := let ⟨xs, h1, h2, h3, h4, _⟩ := h; ⟨xs, h1, h2, h3, h4⟩
theorem RowsL.bx {b : Nat} {st st' : Sto} {d : D} {rows : List (List Int)} (h : RowsL b st d rows) (x : ExB b st st') : RowsL b st' d rows :=
  let ⟨xs, h1, h2, h3, h4, h5⟩ := h; ⟨xs, h1.bx (n := 0) h2 x, h2, QRows.bx x h3 h4, h4, h5⟩
theorem RowsL.hdl {b k : Nat} {st : Sto} {rows : List (List Int)} (h : st[k]? = some (.lst (dRows rows))) (hk : k ≠ b) : RowsL b st (.hdl k) rows :=
  ⟨_, .inr (.inr ⟨k, (List.getElem?_eq_some_iff.mp h).1, rfl, h⟩), (fun e => hk (by injection e)), QRows.lst rows, (fun x hx => by obtain ⟨r, _, rfl⟩ := List.mem_map.mp hx; exact fun e => by cases e), (fun ys e => by cases e), fun x hx ys => by obtain ⟨r, _, rfl⟩ := List.mem_map.mp hx; exact fun e => by cases e⟩

open Classical in
/-- what is left, tried from n downwards -/
noncomputable def lessL (F : List (List Int)) : Nat → List (List Int) → List (List Int)
  | 0, left => left
  | n + 1, left => lessL F n (if PaperP (F ++ left.take n) (left.drop (n + 1)) then left.eraseIdx n else left)
/-- rows in handles of their own, from s on, in a list at h -/
structure OwnR (s h : Nat) (st : Sto) (rows : List (List Int)) : Prop where
  ex : ∃ hs : List Nat, st[h]? = some (Cell.lst (hs.map D.hdl)) ∧ hs.Nodup ∧ (∀ k ∈ hs, s ≤ k ∧ k < h) ∧ QRows st.length st (hs.map D.hdl) rows ∧ ∀ (i : Nat) (r : List Int), rows[i]? = some r → ∃ k : Nat, hs[i]? = some k ∧ st[k]? = some (Cell.lst (r.map D.int))

def spmade_less (c : Cl) : DSp := fun ds st R xq => ∃ (d dl da : D) (rows lines : List (List Int)) (as S : List Int), ds = [d, dl, da] ∧ Rowsd st.length st d rows ∧ Rowsd st.length st dl lines ∧ QAt st.length st da (dIs as) ∧ as.length < 1000000 ∧ (∀ r ∈ rows, okLits S r) ∧ (∀ r ∈ lines, okLits S r ∧ r.length < 1000000) ∧ okS S ∧ rows.length + lines.length < 100000 ∧
  (¬ RefP rows lines as → ∀ st' : Sto, st.length ≤ st'.length → (∀ k, k < st.length → st'[k]? = st[k]?) → xq c.NoPaper st') ∧
  (RefP rows lines as → ∀ (h : Nat) (st' : Sto), st.length ≤ h → OwnR st.length h st' (lessL rows (lines.length - 1) lines) → (∀ k, k < st.length → st'[k]? = st[k]?) → R (.hdl h) st')
def sp_law_asked (c : Cl) : DSp := fun ds st R xq => ∃ (d dl da : D) (rows lines : List (List Int)) (as S : List Int), ds = [d, dl, da] ∧ Rowsd st.length st d rows ∧ Rowsd st.length st dl lines ∧ (da = .lst (dIs as) ∨ da = .tup (dIs as)) ∧ as.length < 1000000 ∧ (∀ r ∈ rows, okLits S r) ∧ (∀ r ∈ lines, okLits S r ∧ r.length < 1000000) ∧ okS S ∧ rows.length + lines.length < 100000 ∧
  (¬ RefP rows lines as → ∀ st' : Sto, st.length ≤ st'.length → (∀ k, k < st.length → st'[k]? = st[k]?) → R (.tup [.non, .bl true]) st') ∧
  (RefP rows lines as → ∀ (h : Nat) (st' : Sto), st.length ≤ h → OwnR st.length h st' (lessL rows (lines.length - 1) lines) → (∀ k, k < st.length → st'[k]? = st[k]?) → R (.tup [.hdl h, .bl false]) st')
def sp_law_less (c : Cl) : DSp := fun ds st R xq => ∃ (d dl da : D) (rows lines : List (List Int)) (as S : List Int), ds = [d, dl, da] ∧ Rowsd st.length st d rows ∧ Rowsd st.length st dl lines ∧ QAt st.length st da (dIs as) ∧ as.length < 1000000 ∧ (∀ r ∈ rows, r.length ≤ 4000 ∧ okLits S r) ∧ (∀ r ∈ lines, r.length ≤ 4000 ∧ okLits S r) ∧ rows.length + lines.length < 100000 ∧ S.length < 1000000 ∧ RefP rows lines as ∧
  ∀ (h : Nat) (st' : Sto), st.length ≤ h → st'[h]? = some (.lst (dRows (lessL rows (lines.length - 1) lines))) → (∀ k, k < st.length → st'[k]? = st[k]?) → R (.hdl h) st'
def splaw (c : Cl) : DSp := fun ds st R xq => ∃ ns : List Int, ds = [.scr (dIs ns)] ∧ ns.length ≤ 1000 ∧ ∀ st', R (.bl true) st'

/-- Units.take -/
def wUnits_take (c : Cl) : MS :=
  (sSeq (sIf (mTest (mOp dIsB (mGet1 (mFld c.Units 1 (mVar 0)) (mVar 1)) (mC (.bl false))))
  (sRt (mC (.bl false)))
  sNx)
  (sSeq (sIf (mTest (mOp (dIN true) (mVar 1) (mFld c.Units 1 (mVar 0))))
  (sSeq (sAs (mC (.bl true)) (gSb (mFld c.Units 1 (mVar 0)) (mVar 1)))
  (sSeq (sAs (mC (.bl false)) (gSb (mFld c.Units 1 (mVar 0)) (mUn dNeg (mVar 1))))
  (sEx (mMe dApp (mFld c.Units 2 (mVar 0)) (maCons (mVar 1) maNil)))))
  sNx)
  (sRt (mC (.bl true)))))

/-- Units.moved -/
def wUnits_moved (c : Cl) : MS :=
  (sSeq (sIf (mTest (mOp (dEQ false) (mOp dIx (mVar 1) (mC (.int 0))) (mVar 2)))
  (sAs (mTup (maCons (mOp dIx (mVar 1) (mC (.int 1))) (maCons (mOp dIx (mVar 1) (mC (.int 0))) maNil))) (gTp 2 (gsCons (gSb (mVar 1) (mC (.int 0))) (gsCons (gSb (mVar 1) (mC (.int 1))) gsNil))))
  sNx)
  (sSeq (sFor (miR2 (maCons (mC (.int 2)) (maCons (mCa dLen (maCons (mVar 1) maNil)) maNil))) (gNm 3)
  (sIf (mTest (mOp dNotB (mGet1 (mFld c.Units 1 (mVar 0)) (mOp dIx (mVar 1) (mVar 3))) (mC (.bl false))))
  (sSeq (sAs (mTup (maCons (mOp dIx (mVar 1) (mVar 3)) (maCons (mOp dIx (mVar 1) (mC (.int 1))) maNil))) (gTp 2 (gsCons (gSb (mVar 1) (mC (.int 1))) (gsCons (gSb (mVar 1) (mVar 3)) gsNil))))
  (sSeq (sEx (mMe dApp (mSetd (mFld c.Units 0 (mVar 0)) (mOp dIx (mVar 1) (mC (.int 1))) (mLstH maNil)) (maCons (mVar 1) maNil)))
  (sRt (mC (.bl true)))))
  sNx))
  (sRt (mC (.bl false)))))

/-- Units.spread -/
def wUnits_spread (c : Cl) : MS :=
  (sSeq (sWh (mTest (mOp dLt (mFld c.Units 3 (mVar 0)) (mCa dLen (maCons (mFld c.Units 2 (mVar 0)) maNil))))
  (sSeq (sAs (mUn dNeg (mOp dIx (mFld c.Units 2 (mVar 0)) (mFld c.Units 3 (mVar 0)))) (gNm 1))
  (sSeq (sAugFld c.Units 3 (fun i j => i + j) (mVar 0) (mC (.int 1)))
  (sSeq (sAs (mGet2 (mFld c.Units 0 (mVar 0)) (mVar 1) (mLst maNil)) (gNm 2))
  (sSeq (sAs (mLstH maNil) (gNm 3))
  (sSeq (sAs (mC (.bl true)) (gNm 4))
  (sSeq (sFor (miSeq (mVar 2)) (gNm 5)
  (sIf (mOr (mNot (mTest (mVar 4))) (mNot (mTest (mMeth c.Units (spUnits_moved c) (mVar 0) (maCons (mVar 5) (maCons (mVar 1) maNil))))))
  (sSeq (sEx (mMe dApp (mVar 3) (maCons (mVar 5) maNil)))
  (sAs (mAndV (mVar 4) (mMeth c.Units (spUnits_take c) (mVar 0) (maCons (mOp dIx (mVar 5) (mC (.int 0))) maNil))) (gNm 4)))
  sNx))
  (sSeq (sAs (mVar 3) (gSb (mFld c.Units 0 (mVar 0)) (mVar 1)))
  (sIf (mNot (mTest (mVar 4)))
  (sRt (mC (.bl false)))
  sNx)))))))))
  (sRt (mC (.bl true))))

/-- Units.follows -/
def wUnits_follows (c : Cl) : MS :=
  (sSeq (sIf (mTest (mFld c.Units 4 (mVar 0)))
  (sRt (mC (.bl true)))
  sNx)
  (sSeq (sAs (mCa dLen (maCons (mFld c.Units 2 (mVar 0)) maNil)) (gNm 2))
  (sSeq (sAs (mAndV (mCa dAll (maCons (mLc (miSeq (mVar 1)) (.nm 4) mYes (mMeth c.Units (spUnits_take c) (mVar 0) (maCons (mUn dNeg (mVar 4)) maNil)) [4]) maNil)) (mMeth0 c.Units (spUnits_spread c) (mVar 0))) (gNm 3))
  (sSeq (sFor (miSeq (mSl (mFld c.Units 2 (mVar 0)) (moSome (mVar 2)) moNone)) (gNm 4)
  (sSeq (sEx (mDPop1 (mFld c.Units 1 (mVar 0)) (mVar 4)))
  (sEx (mDPop1 (mFld c.Units 1 (mVar 0)) (mUn dNeg (mVar 4))))))
  (sSeq (sSetFld c.Units 2 (mVar 0) (mSlH (mFld c.Units 2 (mVar 0)) moNone (moSome (mVar 2))))
  (sSeq (sSetFld c.Units 3 (mVar 0) (mVar 2))
  (sRt (mNotV (mVar 3)))))))))

/-- _law_bag -/
def w_law_bag (c : Cl) : MS :=
  (sSeq (sAs (mC (.int 1)) (gNm 1))
  (sSeq (sFor (miSeq (mVar 0)) (gNm 2)
  (sAs (mOp dMod (mOp dAdd (mOp dAdd (mOp dMul (mVar 1) (mC (.int 1000003))) (mOp dMod (mVar 2) (mC (.int 2305843009213693951)))) (mC (.int 1))) (mC (.int 2305843009213693951))) (gNm 1)))
  (sRt (mLstH (maCons (mCa dList (maCons (mVar 0) maNil)) (maCons (mC (.int 0)) (maCons (mC (.int 0)) (maCons (mC (.int 0)) (maCons (mVar 1) maNil)))))))))

/-- _law_stir -/
def w_law_stir (c : Cl) : MS :=
  (sSeq (sAs (mOp dMod (mOp dAdd (mOp dAdd (mOp dMul (mVar 0) (mC (.int 998244353))) (mOp dMul (mVar 1) (mC (.int 1000000007)))) (mC (.int 5))) (mC (.int 2305843009213693951))) (gNm 2))
  (sSeq (sAs (mOp dMod (mOp dMul (mVar 2) (mVar 2)) (mC (.int 2305843009213693951))) (gNm 3))
  (sRt (mOp dDiv (mOp dMod (mOp dAdd (mOp dAdd (mOp dMul (mVar 3) (mC (.int 2860486313))) (mOp dMul (mOp dMul (mVar 1) (mVar 1)) (mC (.int 48271)))) (mOp dDiv (mVar 2) (mC (.int 3)))) (mC (.int 2305843009213693921))) (mC (.int 1024))))))

/-- _law_draw -/
def w_law_draw (c : Cl) : MS :=
  (sSeq (sIf (mTest (mOp (dEQ false) (mVar 1) (mC (.int 1))))
  (sRt (mC (.int 0)))
  sNx)
  (sSeq (sAs (mOp dAdd (mOp dIx (mVar 0) (mC (.int 3))) (mC (.int 1))) (gSb (mVar 0) (mC (.int 3))))
  (sSeq (sIf (mAnd (mTest (mOp dLt (mOp dIx (mVar 0) (mC (.int 2))) (mC (.int 2)))) (mTest (mOp (dEQ false) (mOp dIx (mVar 0) (mC (.int 1))) (mCa dLen (maCons (mOp dIx (mVar 0) (mC (.int 0))) maNil)))))
  (sRt (mOp dMod (mCall (sp_law_stir c) (maCons (mOp dIx (mVar 0) (mC (.int 4))) (maCons (mOp dIx (mVar 0) (mC (.int 3))) maNil))) (mVar 1)))
  sNx)
  (sSeq (sIf (mTest (mOp dLt (mOp dIx (mVar 0) (mC (.int 2))) (mC (.int 2))))
  (sSeq (sAs (mOp dIx (mOp dIx (mVar 0) (mC (.int 0))) (mOp dIx (mVar 0) (mC (.int 1)))) (gNm 3))
  (sSeq (sAs (mOp dAdd (mOp dIx (mVar 0) (mC (.int 1))) (mC (.int 1))) (gSb (mVar 0) (mC (.int 1))))
  (sSeq (sIf (mTest (mOp dLt (mVar 3) (mOp dPow (mC (.int 10)) (mC (.int 18)))))
  (sRt (mOp dMod (mCall (sp_law_stir c) (maCons (mOp dMod (mVar 3) (mC (.int 2305843009213693951))) (maCons (mOp dIx (mVar 0) (mC (.int 3))) maNil))) (mVar 1)))
  sNx)
  (sAs (mOp dSub (mVar 3) (mOp dPow (mC (.int 10)) (mC (.int 18)))) (gSb (mVar 0) (mC (.int 2)))))))
  sNx)
  (sSeq (sAs (mOp dMod (mOp dIx (mVar 0) (mC (.int 2))) (mVar 1)) (gNm 2))
  (sSeq (sAs (mOp dDiv (mOp dIx (mVar 0) (mC (.int 2))) (mVar 1)) (gSb (mVar 0) (mC (.int 2))))
  (sRt (mVar 2))))))))

/-- _law_variables -/
def w_law_variables (c : Cl) : MS :=
  (sSeq (sAs (mOp dMul (mC (.int 100)) (mCa dInt (maCons (mOp (dEQ false) (mCall (sp_law_draw c) (maCons (mVar 0) (maCons (mC (.int 4)) maNil))) (mC (.int 3))) maNil))) (gNm 2))
  (sSeq (sAs (mLcH (miR1 (maCons (mVar 1) maNil)) (.nm 4) mYes (mOp dAdd (mOp dAdd (mOp dMul (mCall (sp_law_draw c) (maCons (mVar 0) (maCons (mOp dPow (mC (.int 10)) (mC (.int 27))) maNil))) (mVar 2)) (mVar 4)) (mC (.int 1))) [4]) (gNm 3))
  (sRt (mLc (miR1 (maCons (mVar 1) maNil)) (.nm 4) mYes (mMe dPopAt (mVar 3) (maCons (mCall (sp_law_draw c) (maCons (mVar 0) (maCons (mCa dLen (maCons (mVar 3) maNil)) maNil))) maNil)) [4]))))

/-- _law_literal -/
def w_law_literal (c : Cl) : MS :=
  (sRt (mOp dMul (mOp dIx (mVar 1) (mCall (sp_law_draw c) (maCons (mVar 0) (maCons (mCa dLen (maCons (mVar 1) maNil)) maNil)))) (mOp dIx (mLst (maCons (mC (.int 1)) (maCons (mUn dNeg (mC (.int 1))) maNil))) (mCall (sp_law_draw c) (maCons (mVar 0) (maCons (mC (.int 2)) maNil))))))

/-- _law_clause -/
def w_law_clause (c : Cl) : MS :=
  (sRt (mLc (miR1 (maCons (mCall (sp_law_draw c) (maCons (mVar 0) (maCons (mOp dAdd (mVar 2) (mC (.int 1))) maNil))) maNil)) (.nm 3) mYes (mCall (sp_law_literal c) (maCons (mVar 0) (maCons (mVar 1) maNil))) [3]))

/-- _law_shuffled -/
def w_law_shuffled (c : Cl) : MS :=
  (sSeq (sAs (mCa dListH (maCons (mVar 1) maNil)) (gNm 2))
  (sRt (mLc (miR1 (maCons (mCa dLen (maCons (mVar 1) maNil)) maNil)) (.nm 3) mYes (mMe dPopAt (mVar 2) (maCons (mCall (sp_law_draw c) (maCons (mVar 0) (maCons (mCa dLen (maCons (mVar 2) maNil)) maNil))) maNil)) [3])))

/-- _law_clash -/
def w_law_clash (c : Cl) : MS :=
  (sSeq (sAs (mCa dDict (maCons (mVar 1) maNil)) (gNm 1))
  (sSeq (sAs (mC (.bl true)) (gNm 2))
  (sSeq (sWh (mTest (mVar 2))
  (sSeq (sAs (mC (.bl false)) (gNm 2))
  (sFor (miSeq (mVar 0)) (gNm 3)
  (sSeq (sAs (mLc (miSeq (mVar 3)) (.nm 5) (mTest (mOp dIsN (mGet1 (mVar 1) (mUn dNeg (mVar 5))) (mC .non))) (mVar 5) [5]) (gNm 4))
  (sSeq (sIf (mTest (mOp (dEQ false) (mVar 4) (mLst maNil)))
  (sRt (mC (.bl true)))
  sNx)
  (sIf (mAnd (mTest (mOp (dEQ false) (mLenSet (mVar 4)) (mC (.int 1)))) (mTest (mOp dIsN (mGet1 (mVar 1) (mOp dIx (mVar 4) (mC (.int 0)))) (mC .non))))
  (sSeq (sAs (mC (.bl true)) (gSb (mVar 1) (mOp dIx (mVar 4) (mC (.int 0)))))
  (sAs (mC (.bl true)) (gNm 2)))
  sNx))))))
  (sRt (mC (.bl false))))))

/-- _law_follows -/
def w_law_follows (c : Cl) : MS :=
  (sSeq (sAs mDic (gNm 2))
  (sSeq (sFor (miSeq (mVar 1)) (gNm 3)
  (sSeq (sIf (mTest (mOp dNotN (mGet1 (mVar 2) (mVar 3)) (mC .non)))
  (sRt (mC (.bl true)))
  sNx)
  (sAs (mC (.bl true)) (gSb (mVar 2) (mUn dNeg (mVar 3))))))
  (sRt (mCall (sp_law_clash c) (maCons (mVar 0) (maCons (mVar 2) maNil))))))

/-- _law_is_paper -/
def w_law_is_paper (c : Cl) : MS :=
  (sSeq (sAs (mCa dListH (maCons (mVar 0) maNil)) (gNm 2))
  (sSeq (sFor (miSeq (mVar 1)) (gNm 3)
  (sSeq (sIf (mNot (mTest (mCall (sp_law_follows c) (maCons (mVar 2) (maCons (mVar 3) maNil)))))
  (sRt (mC (.bl false)))
  sNx)
  (sEx (mMe dApp (mVar 2) (maCons (mVar 3) maNil)))))
  (sRt (mC (.bl true)))))

/-- _law_refutes -/
def w_law_refutes (c : Cl) : MS :=
  (sSeq (sIf (mTest (mOp (dEQ false) (mVar 1) (mLst maNil)))
  (sRt (mC (.bl false)))
  sNx)
  (sSeq (sAs (mLc (miSeq (mOp dIx (mVar 1) (mUn dNeg (mC (.int 1))))) (.nm 4) (mTest (mOp (dIN true) (mUn dNeg (mVar 4)) (mVar 2))) (mVar 4) [4]) (gNm 3))
  (sRt (mAndV (mOp (dEQ false) (mVar 3) (mLst maNil)) (mCall (sp_law_is_paper c) (maCons (mVar 0) (maCons (mVar 1) maNil)))))))

/-- _law_full -/
def w_law_full (c : Cl) : MS :=
  (sSeq (sAs (mLst (maCons (mLst maNil) maNil)) (gNm 2))
  (sSeq (sFor (miSeq (mVar 0)) (gNm 3)
  (sAs (mOp dAdd (mLc (miSeq (mVar 2)) (.nm 4) mYes (mOp dAdd (mVar 4) (mLst (maCons (mVar 3) maNil))) [4]) (mLc (miSeq (mVar 2)) (.nm 4) mYes (mOp dAdd (mVar 4) (mLst (maCons (mUn dNeg (mVar 3)) maNil))) [4])) (gNm 2)))
  (sRt (mLc (miSeq (mVar 2)) (.nm 4) mYes (mOp dAdd (mVar 4) (mLc (miSeq (mVar 1)) (.nm 5) mYes (mUn dNeg (mVar 5)) [5])) [4]))))

/-- _law_planted -/
def w_law_planted (c : Cl) : MS :=
  (sSeq (sAs (mCall (sp_law_shuffled c) (maCons (mVar 0) (maCons (mCall (sp_law_full c) (maCons (mVar 1) (maCons (mVar 2) maNil))) maNil))) (gNm 3))
  (sSeq (sAs (mLst maNil) (gNm 4))
  (sSeq (sFor (miR3n (maCons (mOp dSub (mCa dLen (maCons (mVar 1) maNil)) (mC (.int 1))) (maCons (mUn dNeg (mC (.int 1))) (maCons (mUn dNeg (mC (.int 1))) maNil)))) (gNm 5)
  (sAs (mOp dAdd (mVar 4) (mCall (sp_law_shuffled c) (maCons (mVar 0) (maCons (mCall (sp_law_full c) (maCons (mSl (mVar 1) moNone (moSome (mVar 5))) (maCons (mVar 2) maNil))) maNil)))) (gNm 4)))
  (sRt (mTup (maCons (mLcH (miSeq (mVar 3)) (.nm 6) mYes (mCall (sp_law_shuffled c) (maCons (mVar 0) (maCons (mVar 6) maNil))) [6]) (maCons (mLcH (miSeq (mVar 4)) (.nm 6) mYes (mCall (sp_law_shuffled c) (maCons (mVar 0) (maCons (mVar 6) maNil))) [6]) maNil)))))))

/-- _law_changed -/
def w_law_changed (c : Cl) : MS :=
  (sSeq (sAs (mLcH (miSeq (mVar 1)) (.nm 9) mYes (mCa dListH (maCons (mVar 9) maNil)) [9]) (gNm 3))
  (sSeq (sAs (mCall (sp_law_draw c) (maCons (mVar 0) (maCons (mC (.int 11)) maNil))) (gNm 4))
  (sSeq (sAs (mCall (sp_law_draw c) (maCons (mVar 0) (maCons (mCa dMax2 (maCons (mC (.int 1)) (maCons (mCa dLen (maCons (mVar 3) maNil)) maNil))) maNil))) (gNm 5))
  (sSeq (sAs (mCall (sp_law_draw c) (maCons (mVar 0) (maCons (mCa dMax2 (maCons (mC (.int 1)) (maCons (mCa dLen (maCons (mVar 3) maNil)) maNil))) maNil))) (gNm 6))
  (sSeq (sAs (mCall (sp_law_literal c) (maCons (mVar 0) (maCons (mVar 2) maNil))) (gNm 7))
  (sSeq (sIf (mTest (mOp (dEQ false) (mVar 4) (mC (.int 10))))
  (sEx (mMe dIns (mVar 3) (maCons (mVar 6) (maCons (mCall (sp_law_clause c) (maCons (mVar 0) (maCons (mVar 2) (maCons (mC (.int 3)) maNil)))) maNil))))
  sNx)
  (sSeq (sIf (mTest (mOp (dEQ false) (mVar 3) (mLst maNil)))
  (sRt (mVar 3))
  sNx)
  (sSeq (sAs (mCall (sp_law_draw c) (maCons (mVar 0) (maCons (mOp dAdd (mCa dLen (maCons (mOp dIx (mVar 3) (mVar 5)) maNil)) (mC (.int 1))) maNil))) (gNm 8))
  (sSeq (sIf (mTest (mOp dLt (mVar 4) (mC (.int 3))))
  (sAs (mOp dMul (mLst (maCons (mVar 7) maNil)) (mCa dInt (maCons (mOp dLt (mVar 4) (mC (.int 2))) maNil))) (gSbSl (mOp dIx (mVar 3) (mVar 5)) (mVar 8) (mOp dAdd (mVar 8) (mCa dInt (maCons (mOp dGt (mVar 4) (mC (.int 0))) maNil)))))
  sNx)
  (sSeq (sIf (mAnd (mTest (mOp (dEQ false) (mVar 4) (mC (.int 3)))) (mTest (mOp dLt (mVar 8) (mCa dLen (maCons (mOp dIx (mVar 3) (mVar 5)) maNil)))))
  (sAs (mUn dNeg (mOp dIx (mOp dIx (mVar 3) (mVar 5)) (mVar 8))) (gSb (mOp dIx (mVar 3) (mVar 5)) (mVar 8)))
  sNx)
  (sSeq (sIf (mTest (mOp (dEQ false) (mVar 4) (mC (.int 4))))
  (sEx (mMe dExt (mOp dIx (mVar 3) (mVar 5)) (maCons (mSl (mOp dIx (mVar 3) (mVar 5)) (moSome (mVar 8)) moNone) maNil)))
  sNx)
  (sSeq (sIf (mTest (mOp (dEQ false) (mVar 4) (mC (.int 5))))
  (sSeq (sAs (mOp dIx (mVar 3) (mVar 5)) (gNm 9))
  (sSeq (sAs (mOp dIx (mVar 3) (mVar 6)) (gSb (mVar 3) (mVar 5)))
  (sAs (mVar 9) (gSb (mVar 3) (mVar 6)))))
  sNx)
  (sSeq (sIf (mTest (mOp (dEQ false) (mVar 4) (mC (.int 6))))
  (sEx (mMe dPopAt (mVar 3) (maCons (mVar 5) maNil)))
  sNx)
  (sSeq (sIf (mTest (mOp (dEQ false) (mVar 4) (mC (.int 7))))
  (sEx (mMe dIns (mVar 3) (maCons (mVar 6) (maCons (mCa dListH (maCons (mOp dIx (mVar 3) (mVar 5)) maNil)) maNil))))
  sNx)
  (sSeq (sIf (mTest (mOp (dEQ false) (mVar 4) (mC (.int 8))))
  (sEx (mMe dIns (mVar 3) (maCons (mVar 6) (maCons (mMe dPopAt (mVar 3) (maCons (mVar 5) maNil)) maNil))))
  sNx)
  (sRt (mVar 3)))))))))))))))))

/-- _law_less -/
def w_law_less (c : Cl) : MS :=
  (sSeq (sAs (mLcH (miSeq (mVar 1)) (.nm 5) mYes (mCa dList (maCons (mVar 5) maNil)) [5]) (gNm 3))
  (sSeq (sFor (miR3n (maCons (mOp dSub (mCa dLen (maCons (mVar 3) maNil)) (mC (.int 2))) (maCons (mUn dNeg (mC (.int 1))) (maCons (mUn dNeg (mC (.int 1))) maNil)))) (gNm 4)
  (sIf (mTest (mCall (sp_law_refutes c) (maCons (mVar 0) (maCons (mOp dAdd (mSl (mVar 3) moNone (moSome (mVar 4))) (mSl (mVar 3) (moSome (mOp dAdd (mVar 4) (mC (.int 1)))) moNone)) (maCons (mVar 2) maNil)))))
  (sEx (mMe dPopAt (mVar 3) (maCons (mVar 4) maNil)))
  sNx))
  (sRt (mVar 3))))

/-- _law_formed -/
def w_law_formed (c : Cl) : MS :=
  (sSeq (sAs (mCall (sp_law_draw c) (maCons (mVar 0) (maCons (mC (.int 4)) maNil))) (gNm 2))
  (sSeq (sAs (mLc (miSeq (mVar 1)) (.nm 4) mYes (mIf (mTest (mOp dLt (mVar 2) (mC (.int 2)))) (mCa dTuple (maCons (mVar 4) maNil)) (mCa dList (maCons (mVar 4) maNil))) [4]) (gNm 3))
  (sRt (mIf (mTest (mOp (dEQ false) (mOp dMod (mVar 2) (mC (.int 2))) (mC (.int 0)))) (mCa dTuple (maCons (mVar 3) maNil)) (mVar 3)))))

/-- Units.add_clause -/
def wUnits_add_clause (c : Cl) : MS :=
  (sSeq (sAs (mLstH maNil) (gNm 2))
  (sSeq (sFor (miSeq (mVar 1)) (gNm 3)
  (sIf (mAnd (mTest (mOp (dIN true) (mVar 3) (mVar 2))) (mTest (mOp dNotB (mGet1 (mFld c.Units 1 (mVar 0)) (mVar 3)) (mC (.bl false)))))
  (sEx (mMe dApp (mVar 2) (maCons (mVar 3) maNil)))
  sNx))
  (sSeq (sIf (mOr (mTest (mFld c.Units 4 (mVar 0))) (mTest (mOp (dEQ true) (mLc (miSeq (mVar 2)) (.nm 3) (mTest (mOp dIsB (mGet1 (mFld c.Units 1 (mVar 0)) (mVar 3)) (mC (.bl true)))) (mVar 3) [3]) (mLst maNil))))
  sRtN
  sNx)
  (sIf (mTest (mOp (dEQ false) (mVar 2) (mLst maNil)))
  (sSetFld c.Units 4 (mVar 0) (mC (.bl true)))
  (sIf (mTest (mOp (dEQ false) (mCa dLen (maCons (mVar 2) maNil)) (mC (.int 1))))
  (sSeq (sEx (mMeth c.Units (spUnits_take c) (mVar 0) (maCons (mOp dIx (mVar 2) (mC (.int 0))) maNil)))
  (sSetFld c.Units 4 (mVar 0) (mNotV (mMeth0 c.Units (spUnits_spread c) (mVar 0)))))
  (sFor (miSeq (mSl (mVar 2) moNone (moSome (mC (.int 2))))) (gNm 3)
  (sEx (mMe dApp (mSetd (mFld c.Units 0 (mVar 0)) (mVar 3) (mLstH maNil)) (maCons (mVar 2) maNil)))))))))

/-- Units.__init__ -/
def wUnits_DinitD (c : Cl) : MS :=
  (sSeq (sSetFld c.Units 0 (mVar 0) mDic)
  (sSeq (sSetFld c.Units 1 (mVar 0) mDic)
  (sSeq (sSetFld c.Units 2 (mVar 0) (mLstH maNil))
  (sSeq (sSetFld c.Units 3 (mVar 0) (mC (.int 0)))
  (sSeq (sSetFld c.Units 4 (mVar 0) (mC (.bl false)))
  (sFor (miSeq (mVar 1)) (gNm 2)
  (sEx (mMeth c.Units (spUnits_add_clause c) (mVar 0) (maCons (mVar 2) maNil)))))))))

/-- all_follow -/
def wall_follow (c : Cl) : MS :=
  (sSeq (sAs (mMake c.Units (spUnits_DinitD c) (maCons (mVar 0) maNil)) (gNm 2))
  (sSeq (sFor (miSeq (mVar 1)) (gNm 3)
  (sSeq (sIf (mNot (mTest (mMeth c.Units (spUnits_follows c) (mVar 2) (maCons (mVar 3) maNil))))
  (sRt (mC (.bl false)))
  sNx)
  (sEx (mMeth c.Units (spUnits_add_clause c) (mVar 2) (maCons (mVar 3) maNil)))))
  (sRt (mC (.bl true)))))

/-- refutes -/
def wrefutes (c : Cl) : MS :=
  (sSeq (sIf (mTest (mOp (dEQ false) (mCa dLen (maCons (mVar 1) maNil)) (mC (.int 0))))
  (sRt (mC (.bl false)))
  sNx)
  (sSeq (sAs (mVar 1) (gTpS 2 0 (gsCons (gNm 4) (gsCons (gNm 3) gsNil))))
  (sSeq (sIf (mTest (mOp (dEQ true) (mLc (miSeq (mVar 3)) (.nm 5) (mTest (mOp (dIN true) (mUn dNeg (mVar 5)) (mVar 2))) (mVar 5) [5]) (mLst maNil)))
  (sRt (mC (.bl false)))
  sNx)
  (sRt (mCall (spall_follow c) (maCons (mVar 0) (maCons (mOp dAdd (mVar 4) (mLst (maCons (mVar 3) maNil))) maNil)))))))

/-- made_less -/
def wmade_less (c : Cl) : MS :=
  (sSeq (sIf (mNot (mTest (mCallK 2 1 (sprefutes c) (maCons (mVar 0) (maCons (mVar 1) maNil)) (maCons (mVar 2) maNil))))
  (sRaise c.NoPaper)
  sNx)
  (sSeq (sAs (mLcH (miSeq (mVar 1)) (.nm 5) mYes (mCa dListH (maCons (mVar 5) maNil)) [5]) (gNm 3))
  (sSeq (sFor (miR3n (maCons (mOp dSub (mCa dLen (maCons (mVar 3) maNil)) (mC (.int 2))) (maCons (mUn dNeg (mC (.int 1))) (maCons (mUn dNeg (mC (.int 1))) maNil)))) (gNm 4)
  (sIf (mTest (mCall (spall_follow c) (maCons (mOp dAdd (mCa dList (maCons (mVar 0) maNil)) (mSl (mVar 3) moNone (moSome (mVar 4)))) (maCons (mSl (mVar 3) (moSome (mOp dAdd (mVar 4) (mC (.int 1)))) moNone) maNil))))
  (sEx (mMe dPopAt (mVar 3) (maCons (mVar 4) maNil)))
  sNx))
  (sRt (mVar 3)))))

/-- _law_asked -/
def w_law_asked (c : Cl) : MS :=
  (sSeq (sAs (mC .non) (gNm 3))
  (sSeq (sAs (mC .non) (gNm 4))
  (sSeq (sTry 3 5 4 [c.NoPaper] (mIf (mTest (mOp dGt (mCa dLen (maCons (mVar 2) maNil)) (mC (.int 0)))) (mCallK 2 1 (spmade_less c) (maCons (mVar 0) (maCons (mVar 1) maNil)) (maCons (mVar 2) maNil)) (mCallD (spmade_less c) (maCons (mVar 0) (maCons (mVar 1) maNil)))))
  (sSeq (sIf (mTest (mOp dIsN (mVar 4) (mC .non)))
  (sRt (mTup (maCons (mVar 3) (maCons (mC (.bl false)) maNil))))
  sNx)
  (sSeq (sAs (mCa (dIsXT [c.NoForm, c.NoKind, c.NoLevel, c.NoModel, c.NoName, c.NoTerm, c.NoText, c.NoWord, c.NoneYet] [(c.NoPaper, false)]) (maCons (mVar 4) (maCons (mTup (maCons (mC (.raw (.ref c.NoForm))) (maCons (mC (.raw (.ref c.NoKind))) (maCons (mC (.raw (.ref c.NoLevel))) (maCons (mC (.raw (.ref c.NoModel))) (maCons (mC (.raw (.ref c.NoName))) (maCons (mC (.raw (.ref c.NoTerm))) (maCons (mC (.raw (.ref c.NoText))) (maCons (mC (.raw (.ref c.NoWord))) (maCons (mC (.raw (.ref c.NoneYet))) maNil)))))))))) maNil))) (gNm 6))
  (sSeq (sAs (mOrV (mVar 6) (mCa (dIsXT [c.TooLong, c.TooMany, c.Twice] [(c.NoPaper, false)]) (maCons (mVar 4) (maCons (mTup (maCons (mC (.raw (.ref c.TooLong))) (maCons (mC (.raw (.ref c.TooMany))) (maCons (mC (.raw (.ref c.Twice))) maNil)))) maNil)))) (gNm 6))
  (sRt (mTup (maCons (mVar 3) (maCons (mAndV (mCa (dIsX (.ref c.NoPaper) [(c.NoPaper, true)]) (maCons (mVar 4) (maCons (mC (.raw (.ref c.NoPaper))) maNil))) (mAndV (mCa (dIsX (.ty "ValueError") [(c.NoPaper, true)]) (maCons (mVar 4) (maCons (mC (.raw (.ty "ValueError"))) maNil))) (mNotV (mVar 6)))) maNil))))))))))

/-- law -/
def wlaw (c : Cl) : MS :=
  (sSeq (sAs (mCall (sp_law_bag c) (maCons (mVar 0) maNil)) (gNm 1))
  (sSeq (sAs (mCall (sp_law_draw c) (maCons (mVar 1) (maCons (mC (.int 4)) maNil))) (gNm 2))
  (sSeq (sAs (mCall (sp_law_draw c) (maCons (mVar 1) (maCons (mC (.int 2)) maNil))) (gNm 3))
  (sSeq (sAs (mCall (sp_law_variables c) (maCons (mVar 1) (maCons (mC (.int 7)) maNil))) (gNm 4))
  (sSeq (sAs (mOp dAdd (mC (.int 1)) (mCall (sp_law_draw c) (maCons (mVar 1) (maCons (mC (.int 4)) maNil)))) (gNm 5))
  (sSeq (sAs (mLc (miSeq (mSl (mVar 4) (moSome (mC (.int 4))) (moSome (mOp dAdd (mC (.int 4)) (mCall (sp_law_draw c) (maCons (mVar 1) (maCons (mC (.int 3)) maNil))))))) (.nm 17) mYes (mOp dMul (mVar 17) (mOp dIx (mLst (maCons (mC (.int 1)) (maCons (mUn dNeg (mC (.int 1))) maNil))) (mCall (sp_law_draw c) (maCons (mVar 1) (maCons (mC (.int 2)) maNil))))) [17]) (gNm 6))
  (sSeq (sAs (mCall (sp_law_planted c) (maCons (mVar 1) (maCons (mSl (mVar 4) moNone (moSome (mVar 5))) (maCons (mVar 6) maNil)))) (gTp 2 (gsCons (gNm 12) (gsCons (gNm 13) gsNil))))
  (sSeq (sFor (miR1 (maCons (mCall (sp_law_draw c) (maCons (mVar 1) (maCons (mC (.int 9)) maNil))) maNil)) (gNm 7)
  (sSeq (sAs (mCall (sp_law_draw c) (maCons (mVar 1) (maCons (mCa dLen (maCons (mVar 13) maNil)) maNil))) (gNm 14))
  (sSeq (sAs (mOp dAdd (mOp dIx (mVar 13) (mVar 14)) (mCall (sp_law_clause c) (maCons (mVar 1) (maCons (mVar 4) (maCons (mC (.int 2)) maNil))))) (gNm 15))
  (sEx (mMe dIns (mVar 13) (maCons (mCall (sp_law_draw c) (maCons (mVar 1) (maCons (mCa dLen (maCons (mVar 13) maNil)) maNil))) (maCons (mOp dIx (mLst (maCons (mVar 15) (maCons (mCall (sp_law_clause c) (maCons (mVar 1) (maCons (mVar 4) (maCons (mC (.int 3)) maNil)))) maNil))) (mOp dDiv (mCall (sp_law_draw c) (maCons (mVar 1) (maCons (mC (.int 8)) maNil))) (mC (.int 7)))) maNil)))))))
  (sSeq (sIf (mTest (mOp (dEQ false) (mVar 2) (mC (.int 3))))
  (sSeq (sAs (mCall (sp_law_changed c) (maCons (mVar 1) (maCons (mOp dIx (mLst (maCons (mVar 13) (maCons (mVar 12) maNil))) (mVar 3)) (maCons (mVar 4) maNil)))) (gNm 16))
  (sAs (mOp dIx (mLst (maCons (mTup (maCons (mVar 16) (maCons (mVar 12) maNil))) (maCons (mTup (maCons (mVar 13) (maCons (mVar 16) maNil))) maNil))) (mVar 3)) (gTp 2 (gsCons (gNm 13) (gsCons (gNm 12) gsNil)))))
  sNx)
  (sSeq (sAs (mLc (miR1 (maCons (mOp dIx (mLst (maCons (mC (.int 0)) (maCons (mC (.int 4)) maNil))) (mCall (sp_law_draw c) (maCons (mVar 1) (maCons (mC (.int 2)) maNil)))) maNil)) (.nm 7) mYes (mCall (sp_law_literal c) (maCons (mVar 1) (maCons (mVar 4) maNil))) [7]) (gNm 8))
  (sSeq (sAs (mCall (sp_law_shuffled c) (maCons (mVar 1) (maCons (mOp dAdd (mVar 6) (mVar 8)) maNil))) (gNm 9))
  (sSeq (sAs (mLst (maCons (mLc (miSeq (mVar 12)) (.nm 18) mYes (mCa dList (maCons (mVar 18) maNil)) [18]) (maCons (mLc (miSeq (mVar 13)) (.nm 18) mYes (mCa dList (maCons (mVar 18) maNil)) [18]) (maCons (mCa dList (maCons (mVar 9) maNil)) maNil)))) (gNm 10))
  (sSeq (sFor (miR1 (maCons (mC (.int 3)) maNil)) (gNm 11)
  (sSeq (sIf (mTest (mOp (dEQ false) (mVar 11) (mC (.int 2))))
  (sAs (mCall (sp_law_asked c) (maCons (mCall (sp_law_formed c) (maCons (mVar 1) (maCons (mVar 12) maNil))) (maCons (mCall (sp_law_formed c) (maCons (mVar 1) (maCons (mVar 13) maNil))) (maCons (mCa dTuple (maCons (mVar 9) maNil)) maNil)))) (gTp 2 (gsCons (gNm 19) (gsCons (gNm 20) gsNil))))
  (sAs (mCall (sp_law_asked c) (maCons (mOp dIx (mVar 10) (mC (.int 0))) (maCons (mOp dIx (mVar 10) (mC (.int 1))) (maCons (mOp dIx (mVar 10) (mC (.int 2))) maNil)))) (gTp 2 (gsCons (gNm 19) (gsCons (gNm 20) gsNil)))))
  (sSeq (sIf (mTest (mOp (dEQ true) (mVar 10) (mLst (maCons (mVar 12) (maCons (mVar 13) (maCons (mVar 9) maNil))))))
  (sRt (mC (.bl false)))
  sNx)
  (sIf (mNot (mTest (mCall (sp_law_refutes c) (maCons (mVar 12) (maCons (mVar 13) (maCons (mVar 9) maNil))))))
  (sIf (mOr (mTest (mOp dNotN (mVar 19) (mC .non))) (mNot (mTest (mVar 20))))
  (sRt (mC (.bl false)))
  sNx)
  (sSeq (sIf (mOr (mNot (mTest (mCa dIsi (maCons (mVar 19) (maCons (mC (.raw (.ty "list"))) maNil))))) (mTest (mOp (dEQ true) (mVar 19) (mCall (sp_law_less c) (maCons (mVar 12) (maCons (mVar 13) (maCons (mVar 9) maNil)))))))
  (sRt (mC (.bl false)))
  sNx)
  (sSeq (sFor (miSeq (mVar 19)) (gNm 15)
  (sEx (mMe dApp (mVar 15) (maCons (mC (.int 7)) maNil))))
  (sEx (mMe0 dClr (mVar 19)))))))))
  (sRt (mOp (dEQ false) (mVar 10) (mLst (maCons (mVar 12) (maCons (mVar 13) (maCons (mVar 9) maNil)))))))))))))))))))

abbrev NUnits : List Str := ["watching", "truths", "trail", "gone", "broken"]
structure ClD (G : Gm) (mg : Str → Option Value) (c : Cl) : Prop where
  Units : ClsD G c.Units NUnits
  x_ProofError : XNm G.K mg "ProofError" c.ProofError
  x_NoPaper : XNm G.K mg "NoPaper" c.NoPaper
  x_NoForm : XNm G.K mg "NoForm" c.NoForm
  x_NoKind : XNm G.K mg "NoKind" c.NoKind
  x_NoLevel : XNm G.K mg "NoLevel" c.NoLevel
  x_NoModel : XNm G.K mg "NoModel" c.NoModel
  x_NoName : XNm G.K mg "NoName" c.NoName
  x_NoTerm : XNm G.K mg "NoTerm" c.NoTerm
  x_NoText : XNm G.K mg "NoText" c.NoText
  x_NoWord : XNm G.K mg "NoWord" c.NoWord
  x_NoneYet : XNm G.K mg "NoneYet" c.NoneYet
  x_TooLong : XNm G.K mg "TooLong" c.TooLong
  x_TooMany : XNm G.K mg "TooMany" c.TooMany
  x_Twice : XNm G.K mg "Twice" c.Twice
  r_NoPaper : XRs G.K c.NoPaper
  t_ProofError : ∀ C ∈ [c.NoPaper], PySem.W.exmOne G.K (.ref C) (.ref c.ProofError) = some true
  i_NoForm_NoKind_NoLevel_NoModel_NoName_NoTerm_NoText_NoWord_NoneYet : ∀ p ∈ ([(c.NoPaper, false)] : List (Addr × Bool)), ExcC G.K p.1 ∧ PySem.W.kitAny G.K (.ref p.1) (([c.NoForm, c.NoKind, c.NoLevel, c.NoModel, c.NoName, c.NoTerm, c.NoText, c.NoWord, c.NoneYet] : List Addr).map Value.ref) = some p.2
  i_TooLong_TooMany_Twice : ∀ p ∈ ([(c.NoPaper, false)] : List (Addr × Bool)), ExcC G.K p.1 ∧ PySem.W.kitAny G.K (.ref p.1) (([c.TooLong, c.TooMany, c.Twice] : List Addr).map Value.ref) = some p.2
  i_NoPaper : ∀ p ∈ ([(c.NoPaper, true)] : List (Addr × Bool)), ExcC G.K p.1 ∧ PySem.W.kitOne G.K (.ref p.1) (.ref c.NoPaper) = some p.2
  i_ValueError : ∀ p ∈ ([(c.NoPaper, true)] : List (Addr × Bool)), ExcC G.K p.1 ∧ PySem.W.kitOne G.K (.ref p.1) (.type "ValueError") = some p.2
def topS (i : Nat) : Stmt := PySem.Challenge.pw_pushproof_k36_papers_made_less.main.body.getD i (.Pass ⟨0, 0, 0, 0⟩)

structure Bl (mg : Str → Option Value) : Prop where
  b_ValueError : mg "ValueError" = none
  b_all : mg "all" = none
  b_dict : mg "dict" = none
  b_int : mg "int" = none
  b_isinstance : mg "isinstance" = none
  b_len : mg "len" = none
  b_list : mg "list" = none
  b_max : mg "max" = none
  b_range : mg "range" = none
  b_set : mg "set" = none
  b_tuple : mg "tuple" = none

abbrev stUnits_take : Stmt := inClass (topS 16) 2
theorem scUnits_take : FnScope ["self", "literal"] ["self", "literal"] (defScope stUnits_take) := ⟨rfl, rfl, rfl, by decide +kernel, rfl, by decide +kernel, by decide +kernel⟩
set_option maxHeartbeats 4000000 in
theorem deUnits_take {P : Program} {w : World} {G : Gm} {mg : Str → Option Value} {base : Heap} {c : Cl} (B : Bl mg) (T : ClD G mg c)  {f : Addr} (cdv : Value) (A : Around) (outer : List Env) (s : Shared) (H : Hp) (E : XK) (hr : Room 0 (A.deeper (envOfC "Units.take" (defScope stUnits_take) s.heap.objs.size f cdv)))  :
    PDSs G E (cxOf CX0 P w G.K mg base ["self", "literal"] "Units.take" (defScope stUnits_take) f cdv A outer s H E).nox (defBody stUnits_take) (wUnits_take c) :=
  (sds_cons (sd_if (pt_cmp op_isB od_isB (pd_get1 (hu_of hr) (pd_fld T.Units 1 (pd_var 0)) (pd_var 1)) pd_bl)
  (sds_one (sd_ret pd_bl))
  sds_nil)
  (sds_cons (sd_if (pt_nin (hu_of hr) (pd_var 1) (pd_fld T.Units 1 (pd_var 0)))
  (sds_cons (sd_asg pd_bl (gd_sb (hu_of hr) (pd_fld T.Units 1 (pd_var 0)) (pd_var 1)))
  (sds_cons (sd_asg pd_bl (gd_sb (hu_of hr) (pd_fld T.Units 1 (pd_var 0)) (pd_un un_neg ud_neg (pd_var 1))))
  (sds_one (sd_expr (pd_lm PySem.F.slot_list_append PySem.F.type_list_append mt_append md_app (pd_fld T.Units 2 (pd_var 0)) (ma_cons (pd_var 1) ma_nil))))))
  sds_nil)
  (sds_one (sd_ret pd_bl))))
abbrev stUnits_moved : Stmt := inClass (topS 16) 3
theorem scUnits_moved : FnScope ["self", "row", "literal", "at"] ["self", "row", "literal"] (defScope stUnits_moved) := ⟨rfl, rfl, rfl, by decide +kernel, rfl, by decide +kernel, by decide +kernel⟩
set_option maxHeartbeats 4000000 in
theorem deUnits_moved {P : Program} {w : World} {G : Gm} {mg : Str → Option Value} {base : Heap} {c : Cl} (B : Bl mg) (T : ClD G mg c)  {f : Addr} (cdv : Value) (A : Around) (outer : List Env) (s : Shared) (H : Hp) (E : XK) (hr : Room 0 (A.deeper (envOfC "Units.moved" (defScope stUnits_moved) s.heap.objs.size f cdv)))  :
    PDSs G E (cxOf CX0 P w G.K mg base ["self", "row", "literal", "at"] "Units.moved" (defScope stUnits_moved) f cdv A outer s H E).nox (defBody stUnits_moved) (wUnits_moved c) :=
  (sds_cons (sd_if (pt_eq hr.units (pd_ix (hu_of hr) (pd_var 1) pd_int) (pd_var 2))
  (sds_one (sd_asg (pd_tup (ma_cons (pd_ix (hu_of hr) (pd_var 1) pd_int) (ma_cons (pd_ix (hu_of hr) (pd_var 1) pd_int) ma_nil))) (gd_tp (gds_cons (gd_sb (hu_of hr) (pd_var 1) pd_int) (gds_cons (gd_sb (hu_of hr) (pd_var 1) pd_int) gds_nil)))))
  sds_nil)
  (sds_cons (sd_for PassesOwn.never (mi_r2 B.b_range (ma_cons pd_int (ma_cons (pd_callB call_LEN (cd_len rfl) B.b_len (by decide +kernel) (ma_cons (pd_var 1) ma_nil)) ma_nil))) (gd_nm 3 scUnits_moved.nd)
  (sds_one (sd_if (pt_cmp op_notB od_notB (pd_get1 (hu_of hr) (pd_fld T.Units 1 (pd_var 0)) (pd_ix (hu_of hr) (pd_var 1) (pd_var 3))) pd_bl)
  (sds_cons (sd_asg (pd_tup (ma_cons (pd_ix (hu_of hr) (pd_var 1) (pd_var 3)) (ma_cons (pd_ix (hu_of hr) (pd_var 1) pd_int) ma_nil))) (gd_tp (gds_cons (gd_sb (hu_of hr) (pd_var 1) pd_int) (gds_cons (gd_sb (hu_of hr) (pd_var 1) (pd_var 3)) gds_nil))))
  (sds_cons (sd_expr (pd_lm PySem.F.slot_list_append PySem.F.type_list_append mt_append md_app (pd_setd (pd_fld T.Units 0 (pd_var 0)) (pd_ix (hu_of hr) (pd_var 1) pd_int) (pd_lstH ma_nil)) (ma_cons (pd_var 1) ma_nil)))
  (sds_one (sd_ret pd_bl))))
  sds_nil)))
  (sds_one (sd_ret pd_bl))))
abbrev stUnits_spread : Stmt := inClass (topS 16) 4
theorem scUnits_spread : FnScope ["self", "literal", "some", "left", "fine", "row"] ["self"] (defScope stUnits_spread) := ⟨rfl, rfl, rfl, by decide +kernel, rfl, by decide +kernel, by decide +kernel⟩
set_option maxHeartbeats 4000000 in
theorem deUnits_spread {P : Program} {w : World} {G : Gm} {mg : Str → Option Value} {base : Heap} {c : Cl} (B : Bl mg) (T : ClD G mg c) (FUnits_moved : CalM P w G mg base 1 c.Units NUnits "moved" (spUnits_moved c)) (FUnits_take : CalM P w G mg base 1 c.Units NUnits "take" (spUnits_take c)) {f : Addr} (cdv : Value) (A : Around) (outer : List Env) (s : Shared) (H : Hp) (E : XK) (hr : Room 1 (A.deeper (envOfC "Units.spread" (defScope stUnits_spread) s.heap.objs.size f cdv)))  :
    PDSs G E (cxOf CX0 P w G.K mg base ["self", "literal", "some", "left", "fine", "row"] "Units.spread" (defScope stUnits_spread) f cdv A outer s H E).nox (defBody stUnits_spread) (wUnits_spread c) :=
  (sds_cons (sd_while PassesOwn.never (pt_cmp op_lt od_lt (pd_fld T.Units 3 (pd_var 0)) (pd_callB call_LEN (cd_len rfl) B.b_len (by decide +kernel) (ma_cons (pd_fld T.Units 2 (pd_var 0)) ma_nil)))
  (sds_cons (sd_set 1 (pd_un un_neg ud_neg (pd_ix (hu_of hr) (pd_fld T.Units 2 (pd_var 0)) (pd_fld T.Units 3 (pd_var 0)))) scUnits_spread.nd)
  (sds_cons (sd_augFld T.Units 3 (in_add) (pd_var 0) pd_int)
  (sds_cons (sd_set 2 (pd_get2 (hu_of hr) (pd_fld T.Units 0 (pd_var 0)) (pd_var 1) (pd_lst ma_nil)) scUnits_spread.nd)
  (sds_cons (sd_set 3 (pd_lstH ma_nil) scUnits_spread.nd)
  (sds_cons (sd_set 4 pd_bl scUnits_spread.nd)
  (sds_cons (sd_for PassesOwn.never (mi_seq (pd_var 2)) (gd_nm 5 scUnits_spread.nd)
  (sds_one (sd_if (pt_w (pw_or (pt_not (pt_val (pd_var 4))) (pw_or1 (pt_not (pt_val (pd_methC FUnits_moved (hr.mono (by decide)) (pd_var 0) (ma_cons (pd_var 5) (ma_cons (pd_var 1) ma_nil))))))))
  (sds_cons (sd_expr (pd_lm PySem.F.slot_list_append PySem.F.type_list_append mt_append md_app (pd_var 3) (ma_cons (pd_var 5) ma_nil)))
  (sds_one (sd_set 4 (pd_and (pd_var 4) (pd_one (pd_methC FUnits_take (hr.mono (by decide)) (pd_var 0) (ma_cons (pd_ix (hu_of hr) (pd_var 5) pd_int) ma_nil)))) scUnits_spread.nd)))
  sds_nil)))
  (sds_cons (sd_asg (pd_var 3) (gd_sb (hu_of hr) (pd_fld T.Units 0 (pd_var 0)) (pd_var 1)))
  (sds_one (sd_if (pt_not (pt_val (pd_var 4)))
  (sds_one (sd_ret pd_bl))
  sds_nil))))))))))
  (sds_one (sd_ret pd_bl)))
abbrev stUnits_follows : Stmt := inClass (topS 16) 5
theorem scUnits_follows : FnScope ["self", "line", "many", "fine", "literal"] ["self", "line"] (defScope stUnits_follows) := ⟨rfl, rfl, rfl, by decide +kernel, rfl, by decide +kernel, by decide +kernel⟩
set_option maxHeartbeats 4000000 in
theorem deUnits_follows {P : Program} {w : World} {G : Gm} {mg : Str → Option Value} {base : Heap} {c : Cl} (B : Bl mg) (T : ClD G mg c) (FUnits_take : CalM P w G mg base 1 c.Units NUnits "take" (spUnits_take c)) (FUnits_spread : CalM P w G mg base 2 c.Units NUnits "spread" (spUnits_spread c)) {f : Addr} (cdv : Value) (A : Around) (outer : List Env) (s : Shared) (H : Hp) (E : XK) (hr : Room 2 (A.deeper (envOfC "Units.follows" (defScope stUnits_follows) s.heap.objs.size f cdv)))  :
    PDSs G E (cxOf CX0 P w G.K mg base ["self", "line", "many", "fine", "literal"] "Units.follows" (defScope stUnits_follows) f cdv A outer s H E).nox (defBody stUnits_follows) (wUnits_follows c) :=
  (sds_cons (sd_if (pt_val (pd_fld T.Units 4 (pd_var 0)))
  (sds_one (sd_ret pd_bl))
  sds_nil)
  (sds_cons (sd_set 2 (pd_callB call_LEN (cd_len rfl) B.b_len (by decide +kernel) (ma_cons (pd_fld T.Units 2 (pd_var 0)) ma_nil)) scUnits_follows.nd)
  (sds_cons (sd_set 3 (pd_and (pd_callB (cr_all rfl) (cd_all rfl) B.b_all (by decide +kernel) (ma_cons (pd_lc [("literal", 4)] (blkOk_by (by kernel_rfl)) scUnits_follows.nd (mi_seq (pd_var 1)) (fun _ _ _ _ _ => (tg_nm 4 scUnits_follows.nd)) (fun _ _ _ _ _ => ts_nil) (fun _ _ _ _ _ => (pd_methC FUnits_take (hr.mono (by decide)) (pd_var 0) (ma_cons (pd_un un_neg ud_neg (pd_var 4)) ma_nil)))) ma_nil)) (pd_one (pd_meth0C FUnits_spread (hr.mono (by decide)) (pd_var 0)))) scUnits_follows.nd)
  (sds_cons (sd_for PassesOwn.never (mi_seq (pd_sl (pd_fld T.Units 2 (pd_var 0)) (mo_some (pd_var 2)) mo_none)) (gd_nm 4 scUnits_follows.nd)
  (sds_cons (sd_expr (pd_dpop1 (pd_fld T.Units 1 (pd_var 0)) (pd_var 4)))
  (sds_one (sd_expr (pd_dpop1 (pd_fld T.Units 1 (pd_var 0)) (pd_un un_neg ud_neg (pd_var 4)))))))
  (sds_cons (sd_fld T.Units 2 (pd_var 0) (pd_slH (pd_fld T.Units 2 (pd_var 0)) mo_none (mo_some (pd_var 2))))
  (sds_cons (sd_fld T.Units 3 (pd_var 0) (pd_var 2))
  (sds_one (sd_ret (pd_not (pd_var 3))))))))))
abbrev st_law_bag : Stmt := topS 21
theorem sc_law_bag : FnScope ["_law_script", "_law_total", "_law_cell"] ["_law_script"] (defScope st_law_bag) := ⟨rfl, rfl, rfl, by decide +kernel, rfl, by decide +kernel, by decide +kernel⟩
set_option maxHeartbeats 4000000 in
theorem de_law_bag {P : Program} {w : World} {G : Gm} {mg : Str → Option Value} {base : Heap} {c : Cl} (B : Bl mg) (T : ClD G mg c)  {f : Addr} (cdv : Value) (A : Around) (outer : List Env) (s : Shared) (H : Hp) (E : XK) (hr : Room 0 (A.deeper (envOfC "_law_bag" (defScope st_law_bag) s.heap.objs.size f cdv)))  :
    PDSs G E (cxOf CX0 P w G.K mg base ["_law_script", "_law_total", "_law_cell"] "_law_bag" (defScope st_law_bag) f cdv A outer s H E).nox (defBody st_law_bag) (w_law_bag c) :=
  (sds_cons (sd_set 1 pd_int sc_law_bag.nd)
  (sds_cons (sd_for PassesOwn.never (mi_seq (pd_var 0)) (gd_nm 2 sc_law_bag.nd)
  (sds_one (sd_set 1 (pd_op op_mod od_mod (pd_op op_ADD od_add (pd_op op_ADD od_add (pd_op op_MUL od_mul (pd_var 1) pd_int) (pd_op op_mod od_mod (pd_var 2) pd_int)) pd_int) pd_int) sc_law_bag.nd)))
  (sds_one (sd_ret (pd_lstH (ma_cons (pd_callTy call_LIST (cd_list rfl) B.b_list (by decide +kernel) (ma_cons (pd_var 0) ma_nil)) (ma_cons pd_int (ma_cons pd_int (ma_cons pd_int (ma_cons (pd_var 1) ma_nil))))))))))
abbrev st_law_stir : Stmt := topS 22
theorem sc_law_stir : FnScope ["_law_number", "_law_place", "_law_one", "_law_two"] ["_law_number", "_law_place"] (defScope st_law_stir) := ⟨rfl, rfl, rfl, by decide +kernel, rfl, by decide +kernel, by decide +kernel⟩
set_option maxHeartbeats 4000000 in
theorem de_law_stir {P : Program} {w : World} {G : Gm} {mg : Str → Option Value} {base : Heap} {c : Cl} (B : Bl mg) (T : ClD G mg c)  {f : Addr} (cdv : Value) (A : Around) (outer : List Env) (s : Shared) (H : Hp) (E : XK) (hr : Room 0 (A.deeper (envOfC "_law_stir" (defScope st_law_stir) s.heap.objs.size f cdv)))  :
    PDSs G E (cxOf CX0 P w G.K mg base ["_law_number", "_law_place", "_law_one", "_law_two"] "_law_stir" (defScope st_law_stir) f cdv A outer s H E).nox (defBody st_law_stir) (w_law_stir c) :=
  (sds_cons (sd_set 2 (pd_op op_mod od_mod (pd_op op_ADD od_add (pd_op op_ADD od_add (pd_op op_MUL od_mul (pd_var 0) pd_int) (pd_op op_MUL od_mul (pd_var 1) pd_int)) pd_int) pd_int) sc_law_stir.nd)
  (sds_cons (sd_set 3 (pd_op op_mod od_mod (pd_op op_MUL od_mul (pd_var 2) (pd_var 2)) pd_int) sc_law_stir.nd)
  (sds_one (sd_ret (pd_op op_fdivW od_div (pd_op op_mod od_mod (pd_op op_ADD od_add (pd_op op_ADD od_add (pd_op op_MUL od_mul (pd_var 3) pd_int) (pd_op op_MUL od_mul (pd_op op_MUL od_mul (pd_var 1) (pd_var 1)) pd_int)) (pd_op op_fdivW od_div (pd_var 2) pd_int)) pd_int) pd_int)))))
abbrev st_law_draw : Stmt := topS 23
theorem sc_law_draw : FnScope ["_law_bag_here", "_law_many", "_law_found", "_law_cell"] ["_law_bag_here", "_law_many"] (defScope st_law_draw) := ⟨rfl, rfl, rfl, by decide +kernel, rfl, by decide +kernel, by decide +kernel⟩
set_option maxHeartbeats 4000000 in
theorem de_law_draw {P : Program} {w : World} {G : Gm} {mg : Str → Option Value} {base : Heap} {c : Cl} (B : Bl mg) (T : ClD G mg c) (F_law_stir : Cal P w G mg base 1 "_law_stir" (sp_law_stir c)) {f : Addr} (cdv : Value) (A : Around) (outer : List Env) (s : Shared) (H : Hp) (E : XK) (hr : Room 1 (A.deeper (envOfC "_law_draw" (defScope st_law_draw) s.heap.objs.size f cdv)))  :
    PDSs G E (cxOf CX0 P w G.K mg base ["_law_bag_here", "_law_many", "_law_found", "_law_cell"] "_law_draw" (defScope st_law_draw) f cdv A outer s H E).nox (defBody st_law_draw) (w_law_draw c) :=
  (sds_cons (sd_if (pt_eq hr.units (pd_var 1) pd_int)
  (sds_one (sd_ret pd_int))
  sds_nil)
  (sds_cons (sd_asg (pd_op op_ADD od_add (pd_ix (hu_of hr) (pd_var 0) pd_int) pd_int) (gd_sb (hu_of hr) (pd_var 0) pd_int))
  (sds_cons (sd_if (pt_w (pw_and (pt_cmp op_lt od_lt (pd_ix (hu_of hr) (pd_var 0) pd_int) pd_int) (pw_and1 (pt_eq hr.units (pd_ix (hu_of hr) (pd_var 0) pd_int) (pd_callB call_LEN (cd_len rfl) B.b_len (by decide +kernel) (ma_cons (pd_ix (hu_of hr) (pd_var 0) pd_int) ma_nil))))))
  (sds_one (sd_ret (pd_op op_mod od_mod (pd_callC F_law_stir (hr.mono (by decide)) (ma_cons (pd_ix (hu_of hr) (pd_var 0) pd_int) (ma_cons (pd_ix (hu_of hr) (pd_var 0) pd_int) ma_nil))) (pd_var 1))))
  sds_nil)
  (sds_cons (sd_if (pt_cmp op_lt od_lt (pd_ix (hu_of hr) (pd_var 0) pd_int) pd_int)
  (sds_cons (sd_set 3 (pd_ix (hu_of hr) (pd_ix (hu_of hr) (pd_var 0) pd_int) (pd_ix (hu_of hr) (pd_var 0) pd_int)) sc_law_draw.nd)
  (sds_cons (sd_asg (pd_op op_ADD od_add (pd_ix (hu_of hr) (pd_var 0) pd_int) pd_int) (gd_sb (hu_of hr) (pd_var 0) pd_int))
  (sds_cons (sd_if (pt_cmp op_lt od_lt (pd_var 3) (pd_op op_pow od_pow pd_int pd_int))
  (sds_one (sd_ret (pd_op op_mod od_mod (pd_callC F_law_stir (hr.mono (by decide)) (ma_cons (pd_op op_mod od_mod (pd_var 3) pd_int) (ma_cons (pd_ix (hu_of hr) (pd_var 0) pd_int) ma_nil))) (pd_var 1))))
  sds_nil)
  (sds_one (sd_asg (pd_op op_sub od_sub (pd_var 3) (pd_op op_pow od_pow pd_int pd_int)) (gd_sb (hu_of hr) (pd_var 0) pd_int))))))
  sds_nil)
  (sds_cons (sd_set 2 (pd_op op_mod od_mod (pd_ix (hu_of hr) (pd_var 0) pd_int) (pd_var 1)) sc_law_draw.nd)
  (sds_cons (sd_asg (pd_op op_fdivW od_div (pd_ix (hu_of hr) (pd_var 0) pd_int) (pd_var 1)) (gd_sb (hu_of hr) (pd_var 0) pd_int))
  (sds_one (sd_ret (pd_var 2)))))))))
abbrev st_law_variables : Stmt := topS 24
theorem sc_law_variables : FnScope ["_law_bag_here", "_law_many", "_law_far", "_law_left", "_law_k"] ["_law_bag_here", "_law_many"] (defScope st_law_variables) := ⟨rfl, rfl, rfl, by decide +kernel, rfl, by decide +kernel, by decide +kernel⟩
set_option maxHeartbeats 4000000 in
theorem de_law_variables {P : Program} {w : World} {G : Gm} {mg : Str → Option Value} {base : Heap} {c : Cl} (B : Bl mg) (T : ClD G mg c) (F_law_draw : Cal P w G mg base 2 "_law_draw" (sp_law_draw c)) {f : Addr} (cdv : Value) (A : Around) (outer : List Env) (s : Shared) (H : Hp) (E : XK) (hr : Room 2 (A.deeper (envOfC "_law_variables" (defScope st_law_variables) s.heap.objs.size f cdv)))  :
    PDSs G E (cxOf CX0 P w G.K mg base ["_law_bag_here", "_law_many", "_law_far", "_law_left", "_law_k"] "_law_variables" (defScope st_law_variables) f cdv A outer s H E).nox (defBody st_law_variables) (w_law_variables c) :=
  (sds_cons (sd_set 2 (pd_op op_MUL od_mul pd_int (pd_callTy call_INT cd_int B.b_int (by decide +kernel) (ma_cons (pd_eq hr.units (pd_callC F_law_draw (hr.mono (by decide)) (ma_cons (pd_var 0) (ma_cons pd_int ma_nil))) pd_int) ma_nil))) sc_law_variables.nd)
  (sds_cons (sd_set 3 (pd_lcH [("_law_k", 4)] (blkOk_by (by kernel_rfl)) sc_law_variables.nd (mi_r1 B.b_range (ma_cons (pd_var 1) ma_nil)) (fun _ _ _ _ _ => (tg_nm 4 sc_law_variables.nd)) (fun _ _ _ _ _ => ts_nil) (fun _ _ _ _ _ => (pd_op op_ADD od_add (pd_op op_ADD od_add (pd_op op_MUL od_mul (pd_callC F_law_draw (hr.mono (by decide)) (ma_cons (pd_var 0) (ma_cons (pd_op op_pow od_pow pd_int pd_int) ma_nil))) (pd_var 2)) (pd_var 4)) pd_int))) sc_law_variables.nd)
  (sds_one (sd_ret (pd_lc [("_law_k", 4)] (blkOk_by (by kernel_rfl)) sc_law_variables.nd (mi_r1 B.b_range (ma_cons (pd_var 1) ma_nil)) (fun _ _ _ _ _ => (tg_nm 4 sc_law_variables.nd)) (fun _ _ _ _ _ => ts_nil) (fun _ _ _ _ _ => (pd_lm PySem.F.slot_list_pop PySem.F.type_list_pop mt_popAt md_popAt (pd_var 3) (ma_cons (pd_callC F_law_draw (hr.mono (by decide)) (ma_cons (pd_var 0) (ma_cons (pd_callB call_LEN (cd_len rfl) B.b_len (by decide +kernel) (ma_cons (pd_var 3) ma_nil)) ma_nil))) ma_nil))))))))
abbrev st_law_literal : Stmt := topS 25
theorem sc_law_literal : FnScope ["_law_bag_here", "_law_variables_here"] ["_law_bag_here", "_law_variables_here"] (defScope st_law_literal) := ⟨rfl, rfl, rfl, by decide +kernel, rfl, by decide +kernel, by decide +kernel⟩
set_option maxHeartbeats 4000000 in
theorem de_law_literal {P : Program} {w : World} {G : Gm} {mg : Str → Option Value} {base : Heap} {c : Cl} (B : Bl mg) (T : ClD G mg c) (F_law_draw : Cal P w G mg base 2 "_law_draw" (sp_law_draw c)) {f : Addr} (cdv : Value) (A : Around) (outer : List Env) (s : Shared) (H : Hp) (E : XK) (hr : Room 2 (A.deeper (envOfC "_law_literal" (defScope st_law_literal) s.heap.objs.size f cdv)))  :
    PDSs G E (cxOf CX0 P w G.K mg base ["_law_bag_here", "_law_variables_here"] "_law_literal" (defScope st_law_literal) f cdv A outer s H E).nox (defBody st_law_literal) (w_law_literal c) :=
  (sds_one (sd_ret (pd_op op_MUL od_mul (pd_ix (hu_of hr) (pd_var 1) (pd_callC F_law_draw (hr.mono (by decide)) (ma_cons (pd_var 0) (ma_cons (pd_callB call_LEN (cd_len rfl) B.b_len (by decide +kernel) (ma_cons (pd_var 1) ma_nil)) ma_nil)))) (pd_ix (hu_of hr) (pd_lst (ma_cons pd_int (ma_cons (pd_un un_neg ud_neg pd_int) ma_nil))) (pd_callC F_law_draw (hr.mono (by decide)) (ma_cons (pd_var 0) (ma_cons pd_int ma_nil)))))))
abbrev st_law_clause : Stmt := topS 26
theorem sc_law_clause : FnScope ["_law_bag_here", "_law_variables_here", "_law_most", "_law_k"] ["_law_bag_here", "_law_variables_here", "_law_most"] (defScope st_law_clause) := ⟨rfl, rfl, rfl, by decide +kernel, rfl, by decide +kernel, by decide +kernel⟩
set_option maxHeartbeats 4000000 in
theorem de_law_clause {P : Program} {w : World} {G : Gm} {mg : Str → Option Value} {base : Heap} {c : Cl} (B : Bl mg) (T : ClD G mg c) (F_law_draw : Cal P w G mg base 2 "_law_draw" (sp_law_draw c)) (F_law_literal : Cal P w G mg base 3 "_law_literal" (sp_law_literal c)) {f : Addr} (cdv : Value) (A : Around) (outer : List Env) (s : Shared) (H : Hp) (E : XK) (hr : Room 3 (A.deeper (envOfC "_law_clause" (defScope st_law_clause) s.heap.objs.size f cdv)))  :
    PDSs G E (cxOf CX0 P w G.K mg base ["_law_bag_here", "_law_variables_here", "_law_most", "_law_k"] "_law_clause" (defScope st_law_clause) f cdv A outer s H E).nox (defBody st_law_clause) (w_law_clause c) :=
  (sds_one (sd_ret (pd_lc [("_law_k", 3)] (blkOk_by (by kernel_rfl)) sc_law_clause.nd (mi_r1 B.b_range (ma_cons (pd_callC F_law_draw (hr.mono (by decide)) (ma_cons (pd_var 0) (ma_cons (pd_op op_ADD od_add (pd_var 2) pd_int) ma_nil))) ma_nil)) (fun _ _ _ _ _ => (tg_nm 3 sc_law_clause.nd)) (fun _ _ _ _ _ => ts_nil) (fun _ _ _ _ _ => (pd_callC F_law_literal (hr.mono (by decide)) (ma_cons (pd_var 0) (ma_cons (pd_var 1) ma_nil)))))))
abbrev st_law_shuffled : Stmt := topS 27
theorem sc_law_shuffled : FnScope ["_law_bag_here", "_law_rows", "_law_left", "_law_k"] ["_law_bag_here", "_law_rows"] (defScope st_law_shuffled) := ⟨rfl, rfl, rfl, by decide +kernel, rfl, by decide +kernel, by decide +kernel⟩
set_option maxHeartbeats 4000000 in
theorem de_law_shuffled {P : Program} {w : World} {G : Gm} {mg : Str → Option Value} {base : Heap} {c : Cl} (B : Bl mg) (T : ClD G mg c) (F_law_draw : Cal P w G mg base 2 "_law_draw" (sp_law_draw c)) {f : Addr} (cdv : Value) (A : Around) (outer : List Env) (s : Shared) (H : Hp) (E : XK) (hr : Room 2 (A.deeper (envOfC "_law_shuffled" (defScope st_law_shuffled) s.heap.objs.size f cdv)))  :
    PDSs G E (cxOf CX0 P w G.K mg base ["_law_bag_here", "_law_rows", "_law_left", "_law_k"] "_law_shuffled" (defScope st_law_shuffled) f cdv A outer s H E).nox (defBody st_law_shuffled) (w_law_shuffled c) :=
  (sds_cons (sd_set 2 (pd_callTy call_LIST (cd_listH rfl) B.b_list (by decide +kernel) (ma_cons (pd_var 1) ma_nil)) sc_law_shuffled.nd)
  (sds_one (sd_ret (pd_lc [("_law_k", 3)] (blkOk_by (by kernel_rfl)) sc_law_shuffled.nd (mi_r1 B.b_range (ma_cons (pd_callB call_LEN (cd_len rfl) B.b_len (by decide +kernel) (ma_cons (pd_var 1) ma_nil)) ma_nil)) (fun _ _ _ _ _ => (tg_nm 3 sc_law_shuffled.nd)) (fun _ _ _ _ _ => ts_nil) (fun _ _ _ _ _ => (pd_lm PySem.F.slot_list_pop PySem.F.type_list_pop mt_popAt md_popAt (pd_var 2) (ma_cons (pd_callC F_law_draw (hr.mono (by decide)) (ma_cons (pd_var 0) (ma_cons (pd_callB call_LEN (cd_len rfl) B.b_len (by decide +kernel) (ma_cons (pd_var 2) ma_nil)) ma_nil))) ma_nil)))))))
abbrev st_law_clash : Stmt := topS 28
theorem sc_law_clash : FnScope ["_law_clauses", "_law_truths", "_law_more", "_law_clause_here", "_law_left", "_law_literal_here"] ["_law_clauses", "_law_truths"] (defScope st_law_clash) := ⟨rfl, rfl, rfl, by decide +kernel, rfl, by decide +kernel, by decide +kernel⟩
set_option maxHeartbeats 4000000 in
theorem de_law_clash {P : Program} {w : World} {G : Gm} {mg : Str → Option Value} {base : Heap} {c : Cl} (B : Bl mg) (T : ClD G mg c)  {f : Addr} (cdv : Value) (A : Around) (outer : List Env) (s : Shared) (H : Hp) (E : XK) (hr : Room 0 (A.deeper (envOfC "_law_clash" (defScope st_law_clash) s.heap.objs.size f cdv)))  :
    PDSs G E (cxOf CX0 P w G.K mg base ["_law_clauses", "_law_truths", "_law_more", "_law_clause_here", "_law_left", "_law_literal_here"] "_law_clash" (defScope st_law_clash) f cdv A outer s H E).nox (defBody st_law_clash) (w_law_clash c) :=
  (sds_cons (sd_set 1 (pd_callTy call_DICT cd_dict B.b_dict (by decide +kernel) (ma_cons (pd_var 1) ma_nil)) sc_law_clash.nd)
  (sds_cons (sd_set 2 pd_bl sc_law_clash.nd)
  (sds_cons (sd_while PassesOwn.never (pt_val (pd_var 2))
  (sds_cons (sd_set 2 pd_bl sc_law_clash.nd)
  (sds_one (sd_for PassesOwn.never (mi_seq (pd_var 0)) (gd_nm 3 sc_law_clash.nd)
  (sds_cons (sd_setLc 4 [("_law_literal_here", 5)] (blkOk_by (by kernel_rfl)) sc_law_clash.nd (mi_seq (pd_var 3)) (fun _ _ _ _ _ => (tg_nm 5 sc_law_clash.nd)) (fun _ _ _ _ _ => (ts_one (pt_cmp op_isN' od_isN (pd_get1 (hu_of hr) (pd_var 1) (pd_un un_neg ud_neg (pd_var 5))) pd_non))) (fun _ _ _ _ _ => (pd_var 5)))
  (sds_cons (sd_if (pt_eq hr.units (pd_var 4) (pd_lst ma_nil))
  (sds_one (sd_ret pd_bl))
  sds_nil)
  (sds_one (sd_if (pt_w (pw_and (pt_eq hr.units (pd_lenSet B.b_len B.b_set (pd_var 4)) pd_int) (pw_and1 (pt_cmp op_isN' od_isN (pd_get1 (hu_of hr) (pd_var 1) (pd_ix (hu_of hr) (pd_var 4) pd_int)) pd_non))))
  (sds_cons (sd_asg pd_bl (gd_sb (hu_of hr) (pd_var 1) (pd_ix (hu_of hr) (pd_var 4) pd_int)))
  (sds_one (sd_set 2 pd_bl sc_law_clash.nd)))
  sds_nil))))))))
  (sds_one (sd_ret pd_bl)))))
abbrev st_law_follows : Stmt := topS 29
theorem sc_law_follows : FnScope ["_law_clauses", "_law_line", "_law_truths", "_law_literal_here"] ["_law_clauses", "_law_line"] (defScope st_law_follows) := ⟨rfl, rfl, rfl, by decide +kernel, rfl, by decide +kernel, by decide +kernel⟩
set_option maxHeartbeats 4000000 in
theorem de_law_follows {P : Program} {w : World} {G : Gm} {mg : Str → Option Value} {base : Heap} {c : Cl} (B : Bl mg) (T : ClD G mg c) (F_law_clash : Cal P w G mg base 1 "_law_clash" (sp_law_clash c)) {f : Addr} (cdv : Value) (A : Around) (outer : List Env) (s : Shared) (H : Hp) (E : XK) (hr : Room 1 (A.deeper (envOfC "_law_follows" (defScope st_law_follows) s.heap.objs.size f cdv)))  :
    PDSs G E (cxOf CX0 P w G.K mg base ["_law_clauses", "_law_line", "_law_truths", "_law_literal_here"] "_law_follows" (defScope st_law_follows) f cdv A outer s H E).nox (defBody st_law_follows) (w_law_follows c) :=
  (sds_cons (sd_set 2 pd_dic sc_law_follows.nd)
  (sds_cons (sd_for PassesOwn.never (mi_seq (pd_var 1)) (gd_nm 3 sc_law_follows.nd)
  (sds_cons (sd_if (pt_cmp op_notN' od_notN (pd_get1 (hu_of hr) (pd_var 2) (pd_var 3)) pd_non)
  (sds_one (sd_ret pd_bl))
  sds_nil)
  (sds_one (sd_asg pd_bl (gd_sb (hu_of hr) (pd_var 2) (pd_un un_neg ud_neg (pd_var 3)))))))
  (sds_one (sd_ret (pd_callC F_law_clash (hr.mono (by decide)) (ma_cons (pd_var 0) (ma_cons (pd_var 2) ma_nil)))))))
abbrev st_law_is_paper : Stmt := topS 30
theorem sc_law_is_paper : FnScope ["_law_clauses", "_law_lines", "_law_rows", "_law_line"] ["_law_clauses", "_law_lines"] (defScope st_law_is_paper) := ⟨rfl, rfl, rfl, by decide +kernel, rfl, by decide +kernel, by decide +kernel⟩
set_option maxHeartbeats 4000000 in
theorem de_law_is_paper {P : Program} {w : World} {G : Gm} {mg : Str → Option Value} {base : Heap} {c : Cl} (B : Bl mg) (T : ClD G mg c) (F_law_follows : Cal P w G mg base 2 "_law_follows" (sp_law_follows c)) {f : Addr} (cdv : Value) (A : Around) (outer : List Env) (s : Shared) (H : Hp) (E : XK) (hr : Room 2 (A.deeper (envOfC "_law_is_paper" (defScope st_law_is_paper) s.heap.objs.size f cdv)))  :
    PDSs G E (cxOf CX0 P w G.K mg base ["_law_clauses", "_law_lines", "_law_rows", "_law_line"] "_law_is_paper" (defScope st_law_is_paper) f cdv A outer s H E).nox (defBody st_law_is_paper) (w_law_is_paper c) :=
  (sds_cons (sd_set 2 (pd_callTy call_LIST (cd_listH rfl) B.b_list (by decide +kernel) (ma_cons (pd_var 0) ma_nil)) sc_law_is_paper.nd)
  (sds_cons (sd_for PassesOwn.never (mi_seq (pd_var 1)) (gd_nm 3 sc_law_is_paper.nd)
  (sds_cons (sd_if (pt_not (pt_val (pd_callC F_law_follows (hr.mono (by decide)) (ma_cons (pd_var 2) (ma_cons (pd_var 3) ma_nil)))))
  (sds_one (sd_ret pd_bl))
  sds_nil)
  (sds_one (sd_expr (pd_lm PySem.F.slot_list_append PySem.F.type_list_append mt_append md_app (pd_var 2) (ma_cons (pd_var 3) ma_nil))))))
  (sds_one (sd_ret pd_bl))))
abbrev st_law_refutes : Stmt := topS 31
theorem sc_law_refutes : FnScope ["_law_clauses", "_law_lines", "_law_some", "_law_wrong", "_law_literal_here"] ["_law_clauses", "_law_lines", "_law_some"] (defScope st_law_refutes) := ⟨rfl, rfl, rfl, by decide +kernel, rfl, by decide +kernel, by decide +kernel⟩
set_option maxHeartbeats 4000000 in
theorem de_law_refutes {P : Program} {w : World} {G : Gm} {mg : Str → Option Value} {base : Heap} {c : Cl} (B : Bl mg) (T : ClD G mg c) (F_law_is_paper : Cal P w G mg base 3 "_law_is_paper" (sp_law_is_paper c)) {f : Addr} (cdv : Value) (A : Around) (outer : List Env) (s : Shared) (H : Hp) (E : XK) (hr : Room 3 (A.deeper (envOfC "_law_refutes" (defScope st_law_refutes) s.heap.objs.size f cdv)))  :
    PDSs G E (cxOf CX0 P w G.K mg base ["_law_clauses", "_law_lines", "_law_some", "_law_wrong", "_law_literal_here"] "_law_refutes" (defScope st_law_refutes) f cdv A outer s H E).nox (defBody st_law_refutes) (w_law_refutes c) :=
  (sds_cons (sd_if (pt_eq hr.units (pd_var 1) (pd_lst ma_nil))
  (sds_one (sd_ret pd_bl))
  sds_nil)
  (sds_cons (sd_setLc 3 [("_law_literal_here", 4)] (blkOk_by (by kernel_rfl)) sc_law_refutes.nd (mi_seq (pd_ix (hu_of hr) (pd_var 1) (pd_un un_neg ud_neg pd_int))) (fun _ _ _ _ _ => (tg_nm 4 sc_law_refutes.nd)) (fun _ _ _ _ _ => (ts_one (pt_nin (hu_of hr) (pd_un un_neg ud_neg (pd_var 4)) (pd_var 2)))) (fun _ _ _ _ _ => (pd_var 4)))
  (sds_one (sd_ret (pd_and (pd_eq hr.units (pd_var 3) (pd_lst ma_nil)) (pd_one (pd_callC F_law_is_paper (hr.mono (by decide)) (ma_cons (pd_var 0) (ma_cons (pd_var 1) ma_nil)))))))))
abbrev st_law_full : Stmt := topS 32
theorem sc_law_full : FnScope ["_law_variables_here", "_law_guards", "_law_rows", "_law_variable", "_law_row", "_law_guard"] ["_law_variables_here", "_law_guards"] (defScope st_law_full) := ⟨rfl, rfl, rfl, by decide +kernel, rfl, by decide +kernel, by decide +kernel⟩
set_option maxHeartbeats 4000000 in
theorem de_law_full {P : Program} {w : World} {G : Gm} {mg : Str → Option Value} {base : Heap} {c : Cl} (B : Bl mg) (T : ClD G mg c)  {f : Addr} (cdv : Value) (A : Around) (outer : List Env) (s : Shared) (H : Hp) (E : XK) (hr : Room 0 (A.deeper (envOfC "_law_full" (defScope st_law_full) s.heap.objs.size f cdv)))  :
    PDSs G E (cxOf CX0 P w G.K mg base ["_law_variables_here", "_law_guards", "_law_rows", "_law_variable", "_law_row", "_law_guard"] "_law_full" (defScope st_law_full) f cdv A outer s H E).nox (defBody st_law_full) (w_law_full c) :=
  (sds_cons (sd_set 2 (pd_lst (ma_cons (pd_lst ma_nil) ma_nil)) sc_law_full.nd)
  (sds_cons (sd_for PassesOwn.never (mi_seq (pd_var 0)) (gd_nm 3 sc_law_full.nd)
  (sds_one (sd_set 2 (pd_op op_ADD od_add (pd_lc [("_law_row", 4)] (blkOk_by (by kernel_rfl)) sc_law_full.nd (mi_seq (pd_var 2)) (fun _ _ _ _ _ => (tg_nm 4 sc_law_full.nd)) (fun _ _ _ _ _ => ts_nil) (fun _ _ _ _ _ => (pd_op op_ADD od_add (pd_var 4) (pd_lst (ma_cons (pd_var 3) ma_nil))))) (pd_lc [("_law_row", 4)] (blkOk_by (by kernel_rfl)) sc_law_full.nd (mi_seq (pd_var 2)) (fun _ _ _ _ _ => (tg_nm 4 sc_law_full.nd)) (fun _ _ _ _ _ => ts_nil) (fun _ _ _ _ _ => (pd_op op_ADD od_add (pd_var 4) (pd_lst (ma_cons (pd_un un_neg ud_neg (pd_var 3)) ma_nil)))))) sc_law_full.nd)))
  (sds_one (sd_ret (pd_lc [("_law_row", 4)] (blkOk_by (by kernel_rfl)) sc_law_full.nd (mi_seq (pd_var 2)) (fun _ _ _ _ _ => (tg_nm 4 sc_law_full.nd)) (fun _ _ _ _ _ => ts_nil) (fun _ _ _ _ _ => (pd_op op_ADD od_add (pd_var 4) (pd_lc [("_law_guard", 5)] (blkOk_by (by kernel_rfl)) sc_law_full.nd (mi_seq (pd_var 1)) (fun _ _ _ _ _ => (tg_nm 5 sc_law_full.nd)) (fun _ _ _ _ _ => ts_nil) (fun _ _ _ _ _ => (pd_un un_neg ud_neg (pd_var 5)))))))))))
abbrev st_law_planted : Stmt := topS 33
theorem sc_law_planted : FnScope ["_law_bag_here", "_law_variables_here", "_law_guards", "_law_clauses", "_law_lines", "_law_many", "_law_row"] ["_law_bag_here", "_law_variables_here", "_law_guards"] (defScope st_law_planted) := ⟨rfl, rfl, rfl, by decide +kernel, rfl, by decide +kernel, by decide +kernel⟩
set_option maxHeartbeats 4000000 in
theorem de_law_planted {P : Program} {w : World} {G : Gm} {mg : Str → Option Value} {base : Heap} {c : Cl} (B : Bl mg) (T : ClD G mg c) (F_law_shuffled : Cal P w G mg base 3 "_law_shuffled" (sp_law_shuffled c)) (F_law_full : Cal P w G mg base 1 "_law_full" (sp_law_full c)) {f : Addr} (cdv : Value) (A : Around) (outer : List Env) (s : Shared) (H : Hp) (E : XK) (hr : Room 3 (A.deeper (envOfC "_law_planted" (defScope st_law_planted) s.heap.objs.size f cdv)))  :
    PDSs G E (cxOf CX0 P w G.K mg base ["_law_bag_here", "_law_variables_here", "_law_guards", "_law_clauses", "_law_lines", "_law_many", "_law_row"] "_law_planted" (defScope st_law_planted) f cdv A outer s H E).nox (defBody st_law_planted) (w_law_planted c) :=
  (sds_cons (sd_set 3 (pd_callC F_law_shuffled (hr.mono (by decide)) (ma_cons (pd_var 0) (ma_cons (pd_callC F_law_full (hr.mono (by decide)) (ma_cons (pd_var 1) (ma_cons (pd_var 2) ma_nil))) ma_nil))) sc_law_planted.nd)
  (sds_cons (sd_set 4 (pd_lst ma_nil) sc_law_planted.nd)
  (sds_cons (sd_for PassesOwn.never (mi_r3n B.b_range (ma_cons (pd_op op_sub od_sub (pd_callB call_LEN (cd_len rfl) B.b_len (by decide +kernel) (ma_cons (pd_var 1) ma_nil)) pd_int) (ma_cons (pd_un un_neg ud_neg pd_int) (ma_cons (pd_un un_neg ud_neg pd_int) ma_nil)))) (gd_nm 5 sc_law_planted.nd)
  (sds_one (sd_set 4 (pd_op op_ADD od_add (pd_var 4) (pd_callC F_law_shuffled (hr.mono (by decide)) (ma_cons (pd_var 0) (ma_cons (pd_callC F_law_full (hr.mono (by decide)) (ma_cons (pd_sl (pd_var 1) mo_none (mo_some (pd_var 5))) (ma_cons (pd_var 2) ma_nil))) ma_nil)))) sc_law_planted.nd)))
  (sds_one (sd_ret (pd_tup (ma_cons (pd_lcH [("_law_row", 6)] (blkOk_by (by kernel_rfl)) sc_law_planted.nd (mi_seq (pd_var 3)) (fun _ _ _ _ _ => (tg_nm 6 sc_law_planted.nd)) (fun _ _ _ _ _ => ts_nil) (fun _ _ _ _ _ => (pd_callC F_law_shuffled (hr.mono (by decide)) (ma_cons (pd_var 0) (ma_cons (pd_var 6) ma_nil))))) (ma_cons (pd_lcH [("_law_row", 6)] (blkOk_by (by kernel_rfl)) sc_law_planted.nd (mi_seq (pd_var 4)) (fun _ _ _ _ _ => (tg_nm 6 sc_law_planted.nd)) (fun _ _ _ _ _ => ts_nil) (fun _ _ _ _ _ => (pd_callC F_law_shuffled (hr.mono (by decide)) (ma_cons (pd_var 0) (ma_cons (pd_var 6) ma_nil))))) ma_nil))))))))
abbrev st_law_changed : Stmt := topS 34
theorem sc_law_changed : FnScope ["_law_bag_here", "_law_rows", "_law_variables_here", "_law_found", "_law_kind", "_law_at", "_law_to", "_law_one", "_law_place", "_law_row"] ["_law_bag_here", "_law_rows", "_law_variables_here"] (defScope st_law_changed) := ⟨rfl, rfl, rfl, by decide +kernel, rfl, by decide +kernel, by decide +kernel⟩
set_option maxHeartbeats 4000000 in
theorem de_law_changed {P : Program} {w : World} {G : Gm} {mg : Str → Option Value} {base : Heap} {c : Cl} (B : Bl mg) (T : ClD G mg c) (F_law_draw : Cal P w G mg base 2 "_law_draw" (sp_law_draw c)) (F_law_literal : Cal P w G mg base 3 "_law_literal" (sp_law_literal c)) (F_law_clause : Cal P w G mg base 4 "_law_clause" (sp_law_clause c)) {f : Addr} (cdv : Value) (A : Around) (outer : List Env) (s : Shared) (H : Hp) (E : XK) (hr : Room 4 (A.deeper (envOfC "_law_changed" (defScope st_law_changed) s.heap.objs.size f cdv)))  :
    PDSs G E (cxOf CX0 P w G.K mg base ["_law_bag_here", "_law_rows", "_law_variables_here", "_law_found", "_law_kind", "_law_at", "_law_to", "_law_one", "_law_place", "_law_row"] "_law_changed" (defScope st_law_changed) f cdv A outer s H E).nox (defBody st_law_changed) (w_law_changed c) :=
  (sds_cons (sd_setLcH 3 [("_law_row", 9)] (blkOk_by (by kernel_rfl)) sc_law_changed.nd (mi_seq (pd_var 1)) (fun _ _ _ _ _ => (tg_nm 9 sc_law_changed.nd)) (fun _ _ _ _ _ => ts_nil) (fun _ _ _ _ _ => (pd_callTy call_LIST (cd_listH rfl) B.b_list (by decide +kernel) (ma_cons (pd_var 9) ma_nil))))
  (sds_cons (sd_set 4 (pd_callC F_law_draw (hr.mono (by decide)) (ma_cons (pd_var 0) (ma_cons pd_int ma_nil))) sc_law_changed.nd)
  (sds_cons (sd_set 5 (pd_callC F_law_draw (hr.mono (by decide)) (ma_cons (pd_var 0) (ma_cons (pd_callB (call_max2 rfl) cd_max2 B.b_max (by decide +kernel) (ma_cons pd_int (ma_cons (pd_callB call_LEN (cd_len rfl) B.b_len (by decide +kernel) (ma_cons (pd_var 3) ma_nil)) ma_nil))) ma_nil))) sc_law_changed.nd)
  (sds_cons (sd_set 6 (pd_callC F_law_draw (hr.mono (by decide)) (ma_cons (pd_var 0) (ma_cons (pd_callB (call_max2 rfl) cd_max2 B.b_max (by decide +kernel) (ma_cons pd_int (ma_cons (pd_callB call_LEN (cd_len rfl) B.b_len (by decide +kernel) (ma_cons (pd_var 3) ma_nil)) ma_nil))) ma_nil))) sc_law_changed.nd)
  (sds_cons (sd_set 7 (pd_callC F_law_literal (hr.mono (by decide)) (ma_cons (pd_var 0) (ma_cons (pd_var 2) ma_nil))) sc_law_changed.nd)
  (sds_cons (sd_if (pt_eq hr.units (pd_var 4) pd_int)
  (sds_one (sd_expr (pd_lm PySem.F.slot_list_insert PySem.F.type_list_insert mt_INSERT md_ins (pd_var 3) (ma_cons (pd_var 6) (ma_cons (pd_callC F_law_clause (hr.mono (by decide)) (ma_cons (pd_var 0) (ma_cons (pd_var 2) (ma_cons pd_int ma_nil)))) ma_nil)))))
  sds_nil)
  (sds_cons (sd_if (pt_eq hr.units (pd_var 3) (pd_lst ma_nil))
  (sds_one (sd_ret (pd_var 3)))
  sds_nil)
  (sds_cons (sd_set 8 (pd_callC F_law_draw (hr.mono (by decide)) (ma_cons (pd_var 0) (ma_cons (pd_op op_ADD od_add (pd_callB call_LEN (cd_len rfl) B.b_len (by decide +kernel) (ma_cons (pd_ix (hu_of hr) (pd_var 3) (pd_var 5)) ma_nil)) pd_int) ma_nil))) sc_law_changed.nd)
  (sds_cons (sd_if (pt_cmp op_lt od_lt (pd_var 4) pd_int)
  (sds_one (sd_asg (pd_op op_MUL od_mul (pd_lst (ma_cons (pd_var 7) ma_nil)) (pd_callTy call_INT cd_int B.b_int (by decide +kernel) (ma_cons (pd_cmp op_lt od_lt (pd_var 4) pd_int) ma_nil))) (gd_sbSl (pd_ix (hu_of hr) (pd_var 3) (pd_var 5)) (pd_var 8) (pd_op op_ADD od_add (pd_var 8) (pd_callTy call_INT cd_int B.b_int (by decide +kernel) (ma_cons (pd_cmp op_gt od_gt (pd_var 4) pd_int) ma_nil))))))
  sds_nil)
  (sds_cons (sd_if (pt_w (pw_and (pt_eq hr.units (pd_var 4) pd_int) (pw_and1 (pt_cmp op_lt od_lt (pd_var 8) (pd_callB call_LEN (cd_len rfl) B.b_len (by decide +kernel) (ma_cons (pd_ix (hu_of hr) (pd_var 3) (pd_var 5)) ma_nil))))))
  (sds_one (sd_asg (pd_un un_neg ud_neg (pd_ix (hu_of hr) (pd_ix (hu_of hr) (pd_var 3) (pd_var 5)) (pd_var 8))) (gd_sb (hu_of hr) (pd_ix (hu_of hr) (pd_var 3) (pd_var 5)) (pd_var 8))))
  sds_nil)
  (sds_cons (sd_if (pt_eq hr.units (pd_var 4) pd_int)
  (sds_one (sd_expr (pd_lm PySem.F.slot_list_extend PySem.F.type_list_extend mt_extend md_ext (pd_ix (hu_of hr) (pd_var 3) (pd_var 5)) (ma_cons (pd_sl (pd_ix (hu_of hr) (pd_var 3) (pd_var 5)) (mo_some (pd_var 8)) mo_none) ma_nil))))
  sds_nil)
  (sds_cons (sd_if (pt_eq hr.units (pd_var 4) pd_int)
  (sds_cons (sd_set 9 (pd_ix (hu_of hr) (pd_var 3) (pd_var 5)) sc_law_changed.nd)
  (sds_cons (sd_asg (pd_ix (hu_of hr) (pd_var 3) (pd_var 6)) (gd_sb (hu_of hr) (pd_var 3) (pd_var 5)))
  (sds_one (sd_asg (pd_var 9) (gd_sb (hu_of hr) (pd_var 3) (pd_var 6))))))
  sds_nil)
  (sds_cons (sd_if (pt_eq hr.units (pd_var 4) pd_int)
  (sds_one (sd_expr (pd_lm PySem.F.slot_list_pop PySem.F.type_list_pop mt_popAt md_popAt (pd_var 3) (ma_cons (pd_var 5) ma_nil))))
  sds_nil)
  (sds_cons (sd_if (pt_eq hr.units (pd_var 4) pd_int)
  (sds_one (sd_expr (pd_lm PySem.F.slot_list_insert PySem.F.type_list_insert mt_INSERT md_ins (pd_var 3) (ma_cons (pd_var 6) (ma_cons (pd_callTy call_LIST (cd_listH rfl) B.b_list (by decide +kernel) (ma_cons (pd_ix (hu_of hr) (pd_var 3) (pd_var 5)) ma_nil)) ma_nil)))))
  sds_nil)
  (sds_cons (sd_if (pt_eq hr.units (pd_var 4) pd_int)
  (sds_one (sd_expr (pd_lm PySem.F.slot_list_insert PySem.F.type_list_insert mt_INSERT md_ins (pd_var 3) (ma_cons (pd_var 6) (ma_cons (pd_lm PySem.F.slot_list_pop PySem.F.type_list_pop mt_popAt md_popAt (pd_var 3) (ma_cons (pd_var 5) ma_nil)) ma_nil)))))
  sds_nil)
  (sds_one (sd_ret (pd_var 3))))))))))))))))))
abbrev st_law_less : Stmt := topS 35
theorem sc_law_less : FnScope ["_law_clauses", "_law_lines", "_law_some", "_law_left", "_law_at", "_law_line"] ["_law_clauses", "_law_lines", "_law_some"] (defScope st_law_less) := ⟨rfl, rfl, rfl, by decide +kernel, rfl, by decide +kernel, by decide +kernel⟩
set_option maxHeartbeats 4000000 in
theorem de_law_less {P : Program} {w : World} {G : Gm} {mg : Str → Option Value} {base : Heap} {c : Cl} (B : Bl mg) (T : ClD G mg c) (F_law_refutes : Cal P w G mg base 4 "_law_refutes" (sp_law_refutes c)) {f : Addr} (cdv : Value) (A : Around) (outer : List Env) (s : Shared) (H : Hp) (E : XK) (hr : Room 4 (A.deeper (envOfC "_law_less" (defScope st_law_less) s.heap.objs.size f cdv)))  :
    PDSs G E (cxOf CX0 P w G.K mg base ["_law_clauses", "_law_lines", "_law_some", "_law_left", "_law_at", "_law_line"] "_law_less" (defScope st_law_less) f cdv A outer s H E).nox (defBody st_law_less) (w_law_less c) :=
  (sds_cons (sd_setLcH 3 [("_law_line", 5)] (blkOk_by (by kernel_rfl)) sc_law_less.nd (mi_seq (pd_var 1)) (fun _ _ _ _ _ => (tg_nm 5 sc_law_less.nd)) (fun _ _ _ _ _ => ts_nil) (fun _ _ _ _ _ => (pd_callTy call_LIST (cd_list rfl) B.b_list (by decide +kernel) (ma_cons (pd_var 5) ma_nil))))
  (sds_cons (sd_for PassesOwn.never (mi_r3n B.b_range (ma_cons (pd_op op_sub od_sub (pd_callB call_LEN (cd_len rfl) B.b_len (by decide +kernel) (ma_cons (pd_var 3) ma_nil)) pd_int) (ma_cons (pd_un un_neg ud_neg pd_int) (ma_cons (pd_un un_neg ud_neg pd_int) ma_nil)))) (gd_nm 4 sc_law_less.nd)
  (sds_one (sd_if (pt_val (pd_callC F_law_refutes (hr.mono (by decide)) (ma_cons (pd_var 0) (ma_cons (pd_op op_ADD od_add (pd_sl (pd_var 3) mo_none (mo_some (pd_var 4))) (pd_sl (pd_var 3) (mo_some (pd_op op_ADD od_add (pd_var 4) pd_int)) mo_none)) (ma_cons (pd_var 2) ma_nil)))))
  (sds_one (sd_expr (pd_lm PySem.F.slot_list_pop PySem.F.type_list_pop mt_popAt md_popAt (pd_var 3) (ma_cons (pd_var 4) ma_nil))))
  sds_nil)))
  (sds_one (sd_ret (pd_var 3)))))
abbrev st_law_formed : Stmt := topS 37
theorem sc_law_formed : FnScope ["_law_bag_here", "_law_rows", "_law_kind", "_law_inner", "_law_row"] ["_law_bag_here", "_law_rows"] (defScope st_law_formed) := ⟨rfl, rfl, rfl, by decide +kernel, rfl, by decide +kernel, by decide +kernel⟩
set_option maxHeartbeats 4000000 in
theorem de_law_formed {P : Program} {w : World} {G : Gm} {mg : Str → Option Value} {base : Heap} {c : Cl} (B : Bl mg) (T : ClD G mg c) (F_law_draw : Cal P w G mg base 2 "_law_draw" (sp_law_draw c)) {f : Addr} (cdv : Value) (A : Around) (outer : List Env) (s : Shared) (H : Hp) (E : XK) (hr : Room 2 (A.deeper (envOfC "_law_formed" (defScope st_law_formed) s.heap.objs.size f cdv)))  :
    PDSs G E (cxOf CX0 P w G.K mg base ["_law_bag_here", "_law_rows", "_law_kind", "_law_inner", "_law_row"] "_law_formed" (defScope st_law_formed) f cdv A outer s H E).nox (defBody st_law_formed) (w_law_formed c) :=
  (sds_cons (sd_set 2 (pd_callC F_law_draw (hr.mono (by decide)) (ma_cons (pd_var 0) (ma_cons pd_int ma_nil))) sc_law_formed.nd)
  (sds_cons (sd_setLc 3 [("_law_row", 4)] (blkOk_by (by kernel_rfl)) sc_law_formed.nd (mi_seq (pd_var 1)) (fun _ _ _ _ _ => (tg_nm 4 sc_law_formed.nd)) (fun _ _ _ _ _ => ts_nil) (fun _ _ _ _ _ => (pd_if (pt_cmp op_lt od_lt (pd_var 2) pd_int) (pd_callTy call_TUPLE (cd_tuple rfl) B.b_tuple (by decide +kernel) (ma_cons (pd_var 4) ma_nil)) (pd_callTy call_LIST (cd_list rfl) B.b_list (by decide +kernel) (ma_cons (pd_var 4) ma_nil)))))
  (sds_one (sd_ret (pd_if (pt_eq hr.units (pd_op op_mod od_mod (pd_var 2) pd_int) pd_int) (pd_callTy call_TUPLE (cd_tuple rfl) B.b_tuple (by decide +kernel) (ma_cons (pd_var 3) ma_nil)) (pd_var 3))))))
abbrev stUnits_add_clause : Stmt := inClass (topS 16) 1
theorem scUnits_add_clause : FnScope ["self", "clause", "row", "literal"] ["self", "clause"] (defScope stUnits_add_clause) := ⟨rfl, rfl, rfl, by decide +kernel, rfl, by decide +kernel, by decide +kernel⟩
set_option maxHeartbeats 4000000 in
theorem deUnits_add_clause {P : Program} {w : World} {G : Gm} {mg : Str → Option Value} {base : Heap} {c : Cl} (B : Bl mg) (T : ClD G mg c) (FUnits_take : CalM P w G mg base 1 c.Units NUnits "take" (spUnits_take c)) (FUnits_spread : CalM P w G mg base 2 c.Units NUnits "spread" (spUnits_spread c)) {f : Addr} (cdv : Value) (A : Around) (outer : List Env) (s : Shared) (H : Hp) (E : XK) (hr : Room 2 (A.deeper (envOfC "Units.add_clause" (defScope stUnits_add_clause) s.heap.objs.size f cdv)))  :
    PDSs G E (cxOf CX0 P w G.K mg base ["self", "clause", "row", "literal"] "Units.add_clause" (defScope stUnits_add_clause) f cdv A outer s H E).nox (defBody stUnits_add_clause) (wUnits_add_clause c) :=
  (sds_cons (sd_set 2 (pd_lstH ma_nil) scUnits_add_clause.nd)
  (sds_cons (sd_for PassesOwn.never (mi_seq (pd_var 1)) (gd_nm 3 scUnits_add_clause.nd)
  (sds_one (sd_if (pt_w (pw_and (pt_nin (hu_of hr) (pd_var 3) (pd_var 2)) (pw_and1 (pt_cmp op_notB od_notB (pd_get1 (hu_of hr) (pd_fld T.Units 1 (pd_var 0)) (pd_var 3)) pd_bl))))
  (sds_one (sd_expr (pd_lm PySem.F.slot_list_append PySem.F.type_list_append mt_append md_app (pd_var 2) (ma_cons (pd_var 3) ma_nil))))
  sds_nil)))
  (sds_cons (sd_if (pt_w (pw_or (pt_val (pd_fld T.Units 4 (pd_var 0))) (pw_or1 (pt_ne hr.units (pd_lc [("literal", 3)] (blkOk_by (by kernel_rfl)) scUnits_add_clause.nd (mi_seq (pd_var 2)) (fun _ _ _ _ _ => (tg_nm 3 scUnits_add_clause.nd)) (fun _ _ _ _ _ => (ts_one (pt_cmp op_isB od_isB (pd_get1 (hu_of hr) (pd_fld T.Units 1 (pd_var 0)) (pd_var 3)) pd_bl))) (fun _ _ _ _ _ => (pd_var 3))) (pd_lst ma_nil)))))
  (sds_one sd_retN)
  sds_nil)
  (sds_one (sd_if (pt_eq hr.units (pd_var 2) (pd_lst ma_nil))
  (sds_one (sd_fld T.Units 4 (pd_var 0) pd_bl))
  (sds_one (sd_if (pt_eq hr.units (pd_callB call_LEN (cd_len rfl) B.b_len (by decide +kernel) (ma_cons (pd_var 2) ma_nil)) pd_int)
  (sds_cons (sd_expr (pd_methC FUnits_take (hr.mono (by decide)) (pd_var 0) (ma_cons (pd_ix (hu_of hr) (pd_var 2) pd_int) ma_nil)))
  (sds_one (sd_fld T.Units 4 (pd_var 0) (pd_not (pd_meth0C FUnits_spread (hr.mono (by decide)) (pd_var 0))))))
  (sds_one (sd_for PassesOwn.never (mi_seq (pd_sl (pd_var 2) mo_none (mo_some pd_int))) (gd_nm 3 scUnits_add_clause.nd)
  (sds_one (sd_expr (pd_lm PySem.F.slot_list_append PySem.F.type_list_append mt_append md_app (pd_setd (pd_fld T.Units 0 (pd_var 0)) (pd_var 3) (pd_lstH ma_nil)) (ma_cons (pd_var 2) ma_nil)))))))))))))
abbrev stUnits_DinitD : Stmt := inClass (topS 16) 0
theorem scUnits_DinitD : FnScope ["self", "clauses", "clause"] ["self", "clauses"] (defScope stUnits_DinitD) := ⟨rfl, rfl, rfl, by decide +kernel, rfl, by decide +kernel, by decide +kernel⟩
set_option maxHeartbeats 4000000 in
theorem deUnits_DinitD {P : Program} {w : World} {G : Gm} {mg : Str → Option Value} {base : Heap} {c : Cl} (B : Bl mg) (T : ClD G mg c) (FUnits_add_clause : CalM P w G mg base 3 c.Units NUnits "add_clause" (spUnits_add_clause c)) {f : Addr} (cdv : Value) (A : Around) (outer : List Env) (s : Shared) (H : Hp) (E : XK) (hr : Room 3 (A.deeper (envOfC "Units.__init__" (defScope stUnits_DinitD) s.heap.objs.size f cdv)))  :
    PDSs G E (cxOf CX0 P w G.K mg base ["self", "clauses", "clause"] "Units.__init__" (defScope stUnits_DinitD) f cdv A outer s H E).nox (defBody stUnits_DinitD) (wUnits_DinitD c) :=
  (sds_cons (sd_fld T.Units 0 (pd_var 0) pd_dic)
  (sds_cons (sd_fld T.Units 1 (pd_var 0) pd_dic)
  (sds_cons (sd_fld T.Units 2 (pd_var 0) (pd_lstH ma_nil))
  (sds_cons (sd_fld T.Units 3 (pd_var 0) pd_int)
  (sds_cons (sd_fld T.Units 4 (pd_var 0) pd_bl)
  (sds_one (sd_for PassesOwn.never (mi_seq (pd_var 1)) (gd_nm 2 scUnits_DinitD.nd)
  (sds_one (sd_expr (pd_methC FUnits_add_clause (hr.mono (by decide)) (pd_var 0) (ma_cons (pd_var 2) ma_nil)))))))))))
abbrev stall_follow : Stmt := topS 17
theorem scall_follow : FnScope ["clauses", "lines", "units", "line"] ["clauses", "lines"] (defScope stall_follow) := ⟨rfl, rfl, rfl, by decide +kernel, rfl, by decide +kernel, by decide +kernel⟩
set_option maxHeartbeats 4000000 in
theorem deall_follow {P : Program} {w : World} {G : Gm} {mg : Str → Option Value} {base : Heap} {c : Cl} (B : Bl mg) (T : ClD G mg c) (FUnits_DinitD : CalI P w G mg base 4 c.Units "Units" (spUnits_DinitD c)) (FUnits_follows : CalM P w G mg base 3 c.Units NUnits "follows" (spUnits_follows c)) (FUnits_add_clause : CalM P w G mg base 3 c.Units NUnits "add_clause" (spUnits_add_clause c)) {f : Addr} (cdv : Value) (A : Around) (outer : List Env) (s : Shared) (H : Hp) (E : XK) (hr : Room 5 (A.deeper (envOfC "all_follow" (defScope stall_follow) s.heap.objs.size f cdv)))  :
    PDSs G E (cxOf CX0 P w G.K mg base ["clauses", "lines", "units", "line"] "all_follow" (defScope stall_follow) f cdv A outer s H E).nox (defBody stall_follow) (wall_follow c) :=
  (sds_cons (sd_set 2 (pd_makeC FUnits_DinitD (hr.mono (by decide)) (ma_cons (pd_var 0) ma_nil)) scall_follow.nd)
  (sds_cons (sd_for PassesOwn.never (mi_seq (pd_var 1)) (gd_nm 3 scall_follow.nd)
  (sds_cons (sd_if (pt_not (pt_val (pd_methC FUnits_follows (hr.mono (by decide)) (pd_var 2) (ma_cons (pd_var 3) ma_nil))))
  (sds_one (sd_ret pd_bl))
  sds_nil)
  (sds_one (sd_expr (pd_methC FUnits_add_clause (hr.mono (by decide)) (pd_var 2) (ma_cons (pd_var 3) ma_nil))))))
  (sds_one (sd_ret pd_bl))))
abbrev strefutes : Stmt := topS 18
theorem screfutes : FnScope ["clauses", "lines", "assumed", "last", "most", "literal"] ["clauses", "lines", "assumed"] (defScope strefutes) := ⟨rfl, rfl, rfl, by decide +kernel, rfl, by decide +kernel, by decide +kernel⟩
set_option maxHeartbeats 4000000 in
theorem derefutes {P : Program} {w : World} {G : Gm} {mg : Str → Option Value} {base : Heap} {c : Cl} (B : Bl mg) (T : ClD G mg c) (Fall_follow : Cal P w G mg base 6 "all_follow" (spall_follow c)) {f : Addr} (cdv : Value) (A : Around) (outer : List Env) (s : Shared) (H : Hp) (E : XK) (hr : Room 6 (A.deeper (envOfC "refutes" (defScope strefutes) s.heap.objs.size f cdv)))  :
    PDSs G E (cxOf CX0 P w G.K mg base ["clauses", "lines", "assumed", "last", "most", "literal"] "refutes" (defScope strefutes) f cdv A outer s H E).nox (defBody strefutes) (wrefutes c) :=
  (sds_cons (sd_if (pt_eq hr.units (pd_callB call_LEN (cd_len rfl) B.b_len (by decide +kernel) (ma_cons (pd_var 1) ma_nil)) pd_int)
  (sds_one (sd_ret pd_bl))
  sds_nil)
  (sds_cons (sd_asg (pd_var 1) (gd_tpS (gds_consS (gd_nm 4 screfutes.nd) (gds_cons (gd_nm 3 screfutes.nd) gds_nil))))
  (sds_cons (sd_if (pt_ne hr.units (pd_lc [("literal", 5)] (blkOk_by (by kernel_rfl)) screfutes.nd (mi_seq (pd_var 3)) (fun _ _ _ _ _ => (tg_nm 5 screfutes.nd)) (fun _ _ _ _ _ => (ts_one (pt_nin (hu_of hr) (pd_un un_neg ud_neg (pd_var 5)) (pd_var 2)))) (fun _ _ _ _ _ => (pd_var 5))) (pd_lst ma_nil))
  (sds_one (sd_ret pd_bl))
  sds_nil)
  (sds_one (sd_ret (pd_callC Fall_follow (hr.mono (by decide)) (ma_cons (pd_var 0) (ma_cons (pd_op op_ADD od_add (pd_var 4) (pd_lst (ma_cons (pd_var 3) ma_nil))) ma_nil))))))))
abbrev stmade_less : Stmt := topS 19
theorem scmade_less : FnScope ["clauses", "lines", "assumed", "left", "at", "line"] ["clauses", "lines", "assumed"] (defScope stmade_less) := ⟨rfl, rfl, rfl, by decide +kernel, rfl, by decide +kernel, by decide +kernel⟩
set_option maxHeartbeats 4000000 in
theorem demade_less {P : Program} {w : World} {G : Gm} {mg : Str → Option Value} {base : Heap} {c : Cl} (B : Bl mg) (T : ClD G mg c) (FKrefutes : CalK P w G mg base 7 "refutes" 2 ["assumed"] (sprefutes c)) (Fall_follow : Cal P w G mg base 6 "all_follow" (spall_follow c)) {f : Addr} (cdv : Value) (A : Around) (outer : List Env) (s : Shared) (H : Hp) (E : XK) (hr : Room 7 (A.deeper (envOfC "made_less" (defScope stmade_less) s.heap.objs.size f cdv))) (tk : Takes (cxOf (L2.CX P w) P w G.K mg base ["clauses", "lines", "assumed", "left", "at", "line"] "made_less" (defScope stmade_less) f cdv A outer s H E) (fun cls d _ H => E cls d H)) :
    PDSs G E (cxOf (L2.CX P w) P w G.K mg base ["clauses", "lines", "assumed", "left", "at", "line"] "made_less" (defScope stmade_less) f cdv A outer s H E) (defBody stmade_less) (wmade_less c) :=
  (sds_cons (sd_if (pt_not (pt_val (pd_callK FKrefutes (hr.mono (by decide)) (ma_cons (pd_var 0) (ma_cons (pd_var 1) ma_nil)) (mk_cons (pd_var 2) mk_nil))))
  (sds_one (sd_raise tk T.x_NoPaper T.r_NoPaper))
  sds_nil)
  (sds_cons (sd_setLcH 3 [("line", 5)] (blkOk_by (by kernel_rfl)) scmade_less.nd (mi_seq (pd_var 1)) (fun _ _ _ _ _ => (tg_nm 5 scmade_less.nd)) (fun _ _ _ _ _ => ts_nil) (fun _ _ _ _ _ => (pd_callTy call_LIST (cd_listH rfl) B.b_list (by decide +kernel) (ma_cons (pd_var 5) ma_nil))))
  (sds_cons (sd_for (passes_of rfl) (mi_r3n B.b_range (ma_cons (pd_op op_sub od_sub (pd_callB call_LEN (cd_len rfl) B.b_len (by decide +kernel) (ma_cons (pd_var 3) ma_nil)) pd_int) (ma_cons (pd_un un_neg ud_neg pd_int) (ma_cons (pd_un un_neg ud_neg pd_int) ma_nil)))) (gd_nm 4 scmade_less.nd)
  (sds_one (sd_if (pt_val (pd_callC Fall_follow (hr.mono (by decide)) (ma_cons (pd_op op_ADD od_add (pd_callTy call_LIST (cd_list rfl) B.b_list (by decide +kernel) (ma_cons (pd_var 0) ma_nil)) (pd_sl (pd_var 3) mo_none (mo_some (pd_var 4)))) (ma_cons (pd_sl (pd_var 3) (mo_some (pd_op op_ADD od_add (pd_var 4) pd_int)) mo_none) ma_nil))))
  (sds_one (sd_expr (pd_lm PySem.F.slot_list_pop PySem.F.type_list_pop mt_popAt md_popAt (pd_var 3) (ma_cons (pd_var 4) ma_nil))))
  sds_nil)))
  (sds_one (sd_ret (pd_var 3))))))
abbrev st_law_asked : Stmt := topS 36
theorem sc_law_asked : FnScope ["_law_clauses", "_law_lines", "_law_some", "_law_found", "_law_caught", "e", "_law_others"] ["_law_clauses", "_law_lines", "_law_some"] (defScope st_law_asked) := ⟨rfl, rfl, rfl, by decide +kernel, rfl, by decide +kernel, by decide +kernel⟩
set_option maxHeartbeats 4000000 in
theorem de_law_asked {P : Program} {w : World} {G : Gm} {mg : Str → Option Value} {base : Heap} {c : Cl} (B : Bl mg) (T : ClD G mg c) (FDmade_less : CalDX P w G mg base 8 "made_less" (spmade_less c)) (FKmade_less : CalKX P w G mg base 8 "made_less" 2 ["assumed"] (spmade_less c)) {f : Addr} (cdv : Value) (A : Around) (outer : List Env) (s : Shared) (H : Hp) (E : XK) (hr : Room 8 (A.deeper (envOfC "_law_asked" (defScope st_law_asked) s.heap.objs.size f cdv)))  :
    PDSs G E (cxOf CX0 P w G.K mg base ["_law_clauses", "_law_lines", "_law_some", "_law_found", "_law_caught", "e", "_law_others"] "_law_asked" (defScope st_law_asked) f cdv A outer s H E).nox (defBody st_law_asked) (w_law_asked c) :=
  (sds_cons (sd_set 3 pd_non sc_law_asked.nd)
  (sds_cons (sd_set 4 pd_non sc_law_asked.nd)
  (sds_cons (sd_try 3 5 4 T.x_ProofError T.t_ProofError (fun _ _ _ tk => (pds_if (fun _ => (pt_cmp op_gt od_gt (pd_callB call_LEN (cd_len rfl) B.b_len (by decide +kernel) (ma_cons (pd_var 2) ma_nil)) pd_int)) (pds_callK FKmade_less tk (hr.mono (by decide)) (fun _ => (ma_cons (pd_var 0) (ma_cons (pd_var 1) ma_nil))) (fun _ => (mk_cons (pd_var 2) mk_nil))) (pds_callD FDmade_less tk (hr.mono (by decide)) (fun _ => (ma_cons (pd_var 0) (ma_cons (pd_var 1) ma_nil)))))) sc_law_asked.nd)
  (sds_cons (sd_if (pt_cmp op_isN' od_isN (pd_var 4) pd_non)
  (sds_one (sd_ret (pd_tup (ma_cons (pd_var 3) (ma_cons pd_bl ma_nil)))))
  sds_nil)
  (sds_cons (sd_set 6 (pd_callB call_isXT (cd_isXT T.i_NoForm_NoKind_NoLevel_NoModel_NoName_NoTerm_NoText_NoWord_NoneYet rfl) B.b_isinstance (by decide +kernel) (ma_cons (pd_var 4) (ma_cons (pd_tup (ma_cons (pd_xnm T.x_NoForm) (ma_cons (pd_xnm T.x_NoKind) (ma_cons (pd_xnm T.x_NoLevel) (ma_cons (pd_xnm T.x_NoModel) (ma_cons (pd_xnm T.x_NoName) (ma_cons (pd_xnm T.x_NoTerm) (ma_cons (pd_xnm T.x_NoText) (ma_cons (pd_xnm T.x_NoWord) (ma_cons (pd_xnm T.x_NoneYet) ma_nil)))))))))) ma_nil))) sc_law_asked.nd)
  (sds_cons (sd_set 6 (pd_or (pd_var 6) (pd_one (pd_callB call_isXT (cd_isXT T.i_TooLong_TooMany_Twice rfl) B.b_isinstance (by decide +kernel) (ma_cons (pd_var 4) (ma_cons (pd_tup (ma_cons (pd_xnm T.x_TooLong) (ma_cons (pd_xnm T.x_TooMany) (ma_cons (pd_xnm T.x_Twice) ma_nil)))) ma_nil))))) sc_law_asked.nd)
  (sds_one (sd_ret (pd_tup (ma_cons (pd_var 3) (ma_cons (pd_and (pd_callB call_isX (cd_isX (.own _) T.i_NoPaper rfl) B.b_isinstance (by decide +kernel) (ma_cons (pd_var 4) (ma_cons (pd_xnm T.x_NoPaper) ma_nil))) (pd_and (pd_callB call_isX (cd_isX (.ty _) T.i_ValueError rfl) B.b_isinstance (by decide +kernel) (ma_cons (pd_var 4) (ma_cons (pd_ty B.b_ValueError (by decide +kernel)) ma_nil))) (pd_one (pd_not (pd_var 6))))) ma_nil)))))))))))
abbrev stlaw : Stmt := topS 38
theorem sclaw : FnScope ["_law_script", "_law_bag_here", "_law_spoil", "_law_where", "_law_variables_here", "_law_many", "_law_guards", "_law_k", "_law_more", "_law_some", "_law_handed", "_law_turn", "_law_clauses", "_law_lines", "_law_at", "_law_line", "_law_rows", "_law_guard", "_law_row", "_law_found", "_law_refused"] ["_law_script"] (defScope stlaw) := ⟨rfl, rfl, rfl, by decide +kernel, rfl, by decide +kernel, by decide +kernel⟩
set_option maxHeartbeats 4000000 in
theorem delaw {P : Program} {w : World} {G : Gm} {mg : Str → Option Value} {base : Heap} {c : Cl} (B : Bl mg) (T : ClD G mg c) (F_law_bag : Cal P w G mg base 1 "_law_bag" (sp_law_bag c)) (F_law_draw : Cal P w G mg base 2 "_law_draw" (sp_law_draw c)) (F_law_variables : Cal P w G mg base 3 "_law_variables" (sp_law_variables c)) (F_law_planted : Cal P w G mg base 4 "_law_planted" (sp_law_planted c)) (F_law_clause : Cal P w G mg base 4 "_law_clause" (sp_law_clause c)) (F_law_changed : Cal P w G mg base 5 "_law_changed" (sp_law_changed c)) (F_law_literal : Cal P w G mg base 3 "_law_literal" (sp_law_literal c)) (F_law_shuffled : Cal P w G mg base 3 "_law_shuffled" (sp_law_shuffled c)) (F_law_asked : Cal P w G mg base 9 "_law_asked" (sp_law_asked c)) (F_law_formed : Cal P w G mg base 3 "_law_formed" (sp_law_formed c)) (F_law_refutes : Cal P w G mg base 4 "_law_refutes" (sp_law_refutes c)) (F_law_less : Cal P w G mg base 5 "_law_less" (sp_law_less c)) {f : Addr} (cdv : Value) (A : Around) (outer : List Env) (s : Shared) (H : Hp) (E : XK) (hr : Room 9 (A.deeper (envOfC "law" (defScope stlaw) s.heap.objs.size f cdv)))  :
    PDSs G E (cxOf CX0 P w G.K mg base ["_law_script", "_law_bag_here", "_law_spoil", "_law_where", "_law_variables_here", "_law_many", "_law_guards", "_law_k", "_law_more", "_law_some", "_law_handed", "_law_turn", "_law_clauses", "_law_lines", "_law_at", "_law_line", "_law_rows", "_law_guard", "_law_row", "_law_found", "_law_refused"] "law" (defScope stlaw) f cdv A outer s H E).nox (defBody stlaw) (wlaw c) :=
  (sds_cons (sd_set 1 (pd_callC F_law_bag (hr.mono (by decide)) (ma_cons (pd_var 0) ma_nil)) sclaw.nd)
  (sds_cons (sd_set 2 (pd_callC F_law_draw (hr.mono (by decide)) (ma_cons (pd_var 1) (ma_cons pd_int ma_nil))) sclaw.nd)
  (sds_cons (sd_set 3 (pd_callC F_law_draw (hr.mono (by decide)) (ma_cons (pd_var 1) (ma_cons pd_int ma_nil))) sclaw.nd)
  (sds_cons (sd_set 4 (pd_callC F_law_variables (hr.mono (by decide)) (ma_cons (pd_var 1) (ma_cons pd_int ma_nil))) sclaw.nd)
  (sds_cons (sd_set 5 (pd_op op_ADD od_add pd_int (pd_callC F_law_draw (hr.mono (by decide)) (ma_cons (pd_var 1) (ma_cons pd_int ma_nil)))) sclaw.nd)
  (sds_cons (sd_setLc 6 [("_law_guard", 17)] (blkOk_by (by kernel_rfl)) sclaw.nd (mi_seq (pd_sl (pd_var 4) (mo_some pd_int) (mo_some (pd_op op_ADD od_add pd_int (pd_callC F_law_draw (hr.mono (by decide)) (ma_cons (pd_var 1) (ma_cons pd_int ma_nil))))))) (fun _ _ _ _ _ => (tg_nm 17 sclaw.nd)) (fun _ _ _ _ _ => ts_nil) (fun _ _ _ _ _ => (pd_op op_MUL od_mul (pd_var 17) (pd_ix (hu_of hr) (pd_lst (ma_cons pd_int (ma_cons (pd_un un_neg ud_neg pd_int) ma_nil))) (pd_callC F_law_draw (hr.mono (by decide)) (ma_cons (pd_var 1) (ma_cons pd_int ma_nil)))))))
  (sds_cons (sd_asg (pd_callC F_law_planted (hr.mono (by decide)) (ma_cons (pd_var 1) (ma_cons (pd_sl (pd_var 4) mo_none (mo_some (pd_var 5))) (ma_cons (pd_var 6) ma_nil)))) (gd_tp (gds_cons (gd_nm 12 sclaw.nd) (gds_cons (gd_nm 13 sclaw.nd) gds_nil))))
  (sds_cons (sd_for PassesOwn.never (mi_r1 B.b_range (ma_cons (pd_callC F_law_draw (hr.mono (by decide)) (ma_cons (pd_var 1) (ma_cons pd_int ma_nil))) ma_nil)) (gd_nm 7 sclaw.nd)
  (sds_cons (sd_set 14 (pd_callC F_law_draw (hr.mono (by decide)) (ma_cons (pd_var 1) (ma_cons (pd_callB call_LEN (cd_len rfl) B.b_len (by decide +kernel) (ma_cons (pd_var 13) ma_nil)) ma_nil))) sclaw.nd)
  (sds_cons (sd_set 15 (pd_op op_ADD od_add (pd_ix (hu_of hr) (pd_var 13) (pd_var 14)) (pd_callC F_law_clause (hr.mono (by decide)) (ma_cons (pd_var 1) (ma_cons (pd_var 4) (ma_cons pd_int ma_nil))))) sclaw.nd)
  (sds_one (sd_expr (pd_lm PySem.F.slot_list_insert PySem.F.type_list_insert mt_INSERT md_ins (pd_var 13) (ma_cons (pd_callC F_law_draw (hr.mono (by decide)) (ma_cons (pd_var 1) (ma_cons (pd_callB call_LEN (cd_len rfl) B.b_len (by decide +kernel) (ma_cons (pd_var 13) ma_nil)) ma_nil))) (ma_cons (pd_ix (hu_of hr) (pd_lst (ma_cons (pd_var 15) (ma_cons (pd_callC F_law_clause (hr.mono (by decide)) (ma_cons (pd_var 1) (ma_cons (pd_var 4) (ma_cons pd_int ma_nil)))) ma_nil))) (pd_op op_fdivW od_div (pd_callC F_law_draw (hr.mono (by decide)) (ma_cons (pd_var 1) (ma_cons pd_int ma_nil))) pd_int)) ma_nil))))))))
  (sds_cons (sd_if (pt_eq hr.units (pd_var 2) pd_int)
  (sds_cons (sd_set 16 (pd_callC F_law_changed (hr.mono (by decide)) (ma_cons (pd_var 1) (ma_cons (pd_ix (hu_of hr) (pd_lst (ma_cons (pd_var 13) (ma_cons (pd_var 12) ma_nil))) (pd_var 3)) (ma_cons (pd_var 4) ma_nil)))) sclaw.nd)
  (sds_one (sd_asg (pd_ix (hu_of hr) (pd_lst (ma_cons (pd_tup (ma_cons (pd_var 16) (ma_cons (pd_var 12) ma_nil))) (ma_cons (pd_tup (ma_cons (pd_var 13) (ma_cons (pd_var 16) ma_nil))) ma_nil))) (pd_var 3)) (gd_tp (gds_cons (gd_nm 13 sclaw.nd) (gds_cons (gd_nm 12 sclaw.nd) gds_nil))))))
  sds_nil)
  (sds_cons (sd_setLc 8 [("_law_k", 7)] (blkOk_by (by kernel_rfl)) sclaw.nd (mi_r1 B.b_range (ma_cons (pd_ix (hu_of hr) (pd_lst (ma_cons pd_int (ma_cons pd_int ma_nil))) (pd_callC F_law_draw (hr.mono (by decide)) (ma_cons (pd_var 1) (ma_cons pd_int ma_nil)))) ma_nil)) (fun _ _ _ _ _ => (tg_nm 7 sclaw.nd)) (fun _ _ _ _ _ => ts_nil) (fun _ _ _ _ _ => (pd_callC F_law_literal (hr.mono (by decide)) (ma_cons (pd_var 1) (ma_cons (pd_var 4) ma_nil)))))
  (sds_cons (sd_set 9 (pd_callC F_law_shuffled (hr.mono (by decide)) (ma_cons (pd_var 1) (ma_cons (pd_op op_ADD od_add (pd_var 6) (pd_var 8)) ma_nil))) sclaw.nd)
  (sds_cons (sd_set 10 (pd_lst (ma_cons (pd_lc [("_law_row", 18)] (blkOk_by (by kernel_rfl)) sclaw.nd (mi_seq (pd_var 12)) (fun _ _ _ _ _ => (tg_nm 18 sclaw.nd)) (fun _ _ _ _ _ => ts_nil) (fun _ _ _ _ _ => (pd_callTy call_LIST (cd_list rfl) B.b_list (by decide +kernel) (ma_cons (pd_var 18) ma_nil)))) (ma_cons (pd_lc [("_law_row", 18)] (blkOk_by (by kernel_rfl)) sclaw.nd (mi_seq (pd_var 13)) (fun _ _ _ _ _ => (tg_nm 18 sclaw.nd)) (fun _ _ _ _ _ => ts_nil) (fun _ _ _ _ _ => (pd_callTy call_LIST (cd_list rfl) B.b_list (by decide +kernel) (ma_cons (pd_var 18) ma_nil)))) (ma_cons (pd_callTy call_LIST (cd_list rfl) B.b_list (by decide +kernel) (ma_cons (pd_var 9) ma_nil)) ma_nil)))) sclaw.nd)
  (sds_cons (sd_for PassesOwn.never (mi_r1 B.b_range (ma_cons pd_int ma_nil)) (gd_nm 11 sclaw.nd)
  (sds_cons (sd_if (pt_eq hr.units (pd_var 11) pd_int)
  (sds_one (sd_asg (pd_callC F_law_asked (hr.mono (by decide)) (ma_cons (pd_callC F_law_formed (hr.mono (by decide)) (ma_cons (pd_var 1) (ma_cons (pd_var 12) ma_nil))) (ma_cons (pd_callC F_law_formed (hr.mono (by decide)) (ma_cons (pd_var 1) (ma_cons (pd_var 13) ma_nil))) (ma_cons (pd_callTy call_TUPLE (cd_tuple rfl) B.b_tuple (by decide +kernel) (ma_cons (pd_var 9) ma_nil)) ma_nil)))) (gd_tp (gds_cons (gd_nm 19 sclaw.nd) (gds_cons (gd_nm 20 sclaw.nd) gds_nil)))))
  (sds_one (sd_asg (pd_callC F_law_asked (hr.mono (by decide)) (ma_cons (pd_ix (hu_of hr) (pd_var 10) pd_int) (ma_cons (pd_ix (hu_of hr) (pd_var 10) pd_int) (ma_cons (pd_ix (hu_of hr) (pd_var 10) pd_int) ma_nil)))) (gd_tp (gds_cons (gd_nm 19 sclaw.nd) (gds_cons (gd_nm 20 sclaw.nd) gds_nil))))))
  (sds_cons (sd_if (pt_ne hr.units (pd_var 10) (pd_lst (ma_cons (pd_var 12) (ma_cons (pd_var 13) (ma_cons (pd_var 9) ma_nil)))))
  (sds_one (sd_ret pd_bl))
  sds_nil)
  (sds_one (sd_if (pt_not (pt_val (pd_callC F_law_refutes (hr.mono (by decide)) (ma_cons (pd_var 12) (ma_cons (pd_var 13) (ma_cons (pd_var 9) ma_nil))))))
  (sds_one (sd_if (pt_w (pw_or (pt_cmp op_notN' od_notN (pd_var 19) pd_non) (pw_or1 (pt_not (pt_val (pd_var 20))))))
  (sds_one (sd_ret pd_bl))
  sds_nil))
  (sds_cons (sd_if (pt_w (pw_or (pt_not (pt_val (pd_callB call_ISI (cd_isi rfl) B.b_isinstance (by decide +kernel) (ma_cons (pd_var 19) (ma_cons (pd_ty B.b_list (by decide +kernel)) ma_nil))))) (pw_or1 (pt_ne hr.units (pd_var 19) (pd_callC F_law_less (hr.mono (by decide)) (ma_cons (pd_var 12) (ma_cons (pd_var 13) (ma_cons (pd_var 9) ma_nil))))))))
  (sds_one (sd_ret pd_bl))
  sds_nil)
  (sds_cons (sd_for PassesOwn.never (mi_seq (pd_var 19)) (gd_nm 15 sclaw.nd)
  (sds_one (sd_expr (pd_lm PySem.F.slot_list_append PySem.F.type_list_append mt_append md_app (pd_var 15) (ma_cons pd_int ma_nil)))))
  (sds_one (sd_expr (pd_lm0 PySem.F.slot_list_clear PySem.F.type_list_clear mt_clear md_clr (pd_var 19)))))))))))
  (sds_one (sd_ret (pd_eq hr.units (pd_var 10) (pd_lst (ma_cons (pd_var 12) (ma_cons (pd_var 13) (ma_cons (pd_var 9) ma_nil))))))))))))))))))))
end DL
namespace DL
set_option maxHeartbeats 2000000
open PySem PySem.Spec PyProof.Rows L2

local macro_rules | `(tactic| walk_at "s1") => `(tactic| first
  | with_reducible refine sSeq_i ?_
  | with_reducible refine mVar_i rfl ?_
  | with_reducible refine mC_i ?_
  | with_reducible refine maCons_i ?_
  | with_reducible refine maNil_i ?_
  | with_reducible refine mOp_i ?_
  | with_reducible refine mTest_i ?_
  | with_reducible refine sIf_i ?_
  | with_reducible refine sAs_i ?_
  | with_reducible refine gNm_i (by dsimp only [List.set_cons_zero, List.set_cons_succ, List.set_nil] <;> rfl) ?_
  | with_reducible refine tnm_i (by dsimp only [wipeD, List.set_cons_zero, List.set_cons_succ, List.set_nil] <;> rfl) ?_
  | with_reducible refine ttp_i rfl ?_
  | with_reducible refine ttc_i ?_
  | with_reducible refine ttn_i ?_
  | with_reducible refine mCall_i ?_
  | with_reducible refine mCa_i ?_
  | with_reducible refine onB_i ?_
  | with_reducible refine onI_i ?_
  | with_reducible refine onS_i ?_
  | with_reducible refine sRt_i ?_
  | with_reducible refine sEx_i ?_
  | with_reducible refine sNx_i ?_
  | with_reducible refine sRtN_i ?_
  | with_reducible refine sBk_i ?_
  | with_reducible refine sCt_i ?_
  | with_reducible refine sFor_i ?_
  | with_reducible refine sAug_i rfl ?_
  | with_reducible refine sSetFld_i ?_
  | with_reducible refine sAugFld_i ?_
  | with_reducible refine gTp_i rfl ?_
  | with_reducible refine gsCons_i ?_
  | with_reducible refine gsNil_i ?_
  | with_reducible refine gSb_i ?_
  | with_reducible refine mUn_i ?_
  | with_reducible refine mAnd_i ?_
  | with_reducible refine mOr_i ?_
  | with_reducible refine mNot_i ?_
  | with_reducible refine mAndV_i ?_
  | with_reducible refine mOrV_i ?_
  | with_reducible refine mNotV_i ?_
  | with_reducible refine mIf_i ?_
  | with_reducible refine mYes_i ?_
  | with_reducible refine mLst_i ?_
  | with_reducible refine mTup_i ?_
  | with_reducible refine mLstH_i ?_
  | with_reducible refine mDic_i ?_
  | with_reducible refine mMeth_i ?_
  | with_reducible refine mMeth0_i ?_
  | with_reducible refine mMake_i ?_
  | with_reducible refine mFld_i ?_
  | with_reducible refine mMe_i ?_
  | with_reducible refine mMe0_i ?_
  | with_reducible refine mGet1_i ?_
  | with_reducible refine mGet2_i ?_
  | with_reducible refine mSetd_i ?_
  | with_reducible refine mDPop1_i ?_
  | with_reducible refine mSl_i ?_
  | with_reducible refine mSlH_i ?_
  | with_reducible refine mSlStep_i ?_
  | with_reducible refine moNone_i ?_
  | with_reducible refine moSome_i ?_
  | with_reducible refine mLenSet_i ?_
  | with_reducible refine mLc_i ?_
  | with_reducible refine mLcH_i ?_
  | with_reducible refine miSeq_i ?_
  | with_reducible refine miR1_i ?_
  | with_reducible refine miR2_i ?_
  | with_reducible refine miR3n_i ?_
  | with_reducible refine dIt_l ?_
  | with_reducible refine dIt_s ?_
  | with_reducible refine dIt_t ?_
  | with_reducible refine dII0_i ?_
  | with_reducible refine dAdd_i ?_
  | with_reducible refine dNeg_i ?_
  | with_reducible refine dEQ_i ?_
  | with_reducible refine dEQ_b ?_
  | with_reducible refine dIsN_i ?_
  | with_reducible refine dNotN_i ?_
  | with_reducible refine dLen_l ?_
  | with_reducible refine dLen_s ?_
  | with_reducible refine dLen_t ?_
  | with_reducible refine dInt_i ?_
  | with_reducible refine dInt_b ?_
  | with_reducible refine dII1_i ?_
  | with_reducible refine dList_l ?_
  | with_reducible refine dList_s ?_
  | with_reducible refine dList_t ?_
  | with_reducible refine dListH_l ?_
  | with_reducible refine dListH_s ?_
  | with_reducible refine dListH_t ?_
  | with_reducible refine dTuple_l ?_
  | with_reducible refine dTuple_t ?_
  | with_reducible refine dIsB_b ?_
  | with_reducible refine dIsB_n ?_
  | with_reducible refine dNotB_b ?_
  | with_reducible refine dNotB_n ?_
  | with_reducible refine And.intro (szN rfl) ?_
  | with_reducible refine ifT rfl ?_
  | with_reducible refine ifF rfl ?_)
local macro_rules | `(tactic| walk_at "s") => `(tactic| repeat walk_at "s1")

abbrev EndsOf (R : DQ) (xq : XQ) : DEnds := ⟨fun _ st' => R .non st', R, fun _ _ => False, fun _ _ => False, xq⟩
theorem cmx {i j : Int} (h1 : -(2 ^ 200) < i) (h2 : i < 2 ^ 200) (h3 : -(2 ^ 200) < j) (h4 : j < 2 ^ 200) : CMulX i j :=
  mulx_ok (a := 200) (b := 200) (by omega) (by omega) (by omega)
theorem cdw {i j : Int} (h1 : 0 < j) (h2 : j < 2 ^ 200) : CDivW i j := wide_div (b := 200) h1 (by omega) (by omega) (by omega)
theorem getElem?_set_same {α : Type} {l : List α} {i : Nat} {a : α} (h : l[i]? = some a) (b : α) : (l.set i b)[i]? = some b := List.getElem?_set_self (List.getElem?_eq_some_iff.mp h).1
theorem sem_stir (c : Cl) : ∀ ds st R xq, sp_law_stir c ds st R xq → w_law_stir c (EndsOf R xq) (startD ["_law_number", "_law_place", "_law_one", "_law_two"] ds) st := by
  rintro ds st R xq ⟨a, b, rfl, h1, h2, h3, h4, k⟩
  simp [w_law_stir]
  have hb : 0 ≤ b * b ∧ b * b < 2 ^ 120 := by
    constructor
    · exact Int.mul_nonneg h3 h3
    · have : b * b ≤ (2 ^ 60 - 1) * (2 ^ 60 - 1) := Int.mul_le_mul (by omega) (by omega) h3 (by omega)
      omega
  generalize hx : (a * 998244353 + b * 1000000007 + 5) % 2305843009213693951 = x
  have hx0 : 0 ≤ x ∧ x < 2305843009213693951 := by subst hx; exact ⟨Int.emod_nonneg _ (by omega), Int.emod_lt_of_pos _ (by omega)⟩
  generalize hy : x * x % 2305843009213693951 = y
  have hy0 : 0 ≤ y ∧ y < 2305843009213693951 := by subst hy; exact ⟨Int.emod_nonneg _ (by omega), Int.emod_lt_of_pos _ (by omega)⟩
  clear hx hy
  have hxx : 0 ≤ x * x ∧ x * x < 2 ^ 130 := by
    constructor
    · exact Int.mul_nonneg hx0.1 hx0.1
    · have : x * x ≤ (2 ^ 61) * (2 ^ 61) := Int.mul_le_mul (by omega) (by omega) hx0.1 (by omega)
      omega
  exact ⟨cmx (by omega) (by omega) (by omega) (by omega), cmx (by omega) (by omega) (by omega) (by omega), cmx (by omega) (by omega) (by omega) (by omega), cmx (by omega) (by omega) (by omega) (by omega), cmx (by omega) (by omega) (by omega) (by omega),
    cmx (by omega) (by omega) (by omega) (by omega), cdw (by omega) (by omega), cdw (by omega) (by omega), k _⟩
theorem ExB.refl {b : Nat} {st : Sto} : ExB b st st := ⟨Nat.le_refl _, fun _ _ _ => rfl⟩
theorem ExB.trans {b : Nat} {x y z : Sto} (h : ExB b x y) (h' : ExB b y z) : ExB b x z :=
  ⟨Nat.le_trans h.len h'.len, fun k hk hb => (h'.get k (Nat.lt_of_lt_of_le hk h.len) hb).trans (h.get k hk hb)⟩
theorem ExB.set {b : Nat} {st : Sto} {c : Cell} : ExB b st (st.set b c) := ⟨by rw [List.length_set]; exact Nat.le_refl _, fun k _ hb => List.getElem?_set_ne (Ne.symm hb)⟩
theorem ExB.app {b : Nat} {st : Sto} {cs : List Cell} : ExB b st (st ++ cs) := ⟨by rw [List.length_append]; omega, fun k hk _ => List.getElem?_append_left hk⟩
theorem ExB.cell {b : Nat} {st st' : Sto} (h : ExB b st st') {k : Nat} {c : Cell} (e : st[k]? = some c) (hb : k ≠ b) : st'[k]? = some c := by
  rw [h.get k (List.getElem?_eq_some_iff.mp e).1 hb]; exact e
theorem Bag.lt {st : Sto} {b n : Nat} (h : Bag st b n) : b < st.length := by
  obtain ⟨c, e, _⟩ := h
  exact (List.getElem?_eq_some_iff.mp e).1
theorem BagC.mono {n n' : Nat} {c : Cell} (h : BagC n c) (l : n ≤ n') : BagC n' c := by
  obtain ⟨ns, p, z, q, t, e, h1, h2, h3, h4, h5, h6⟩ := h
  exact ⟨ns, p, z, q, t, e, h1, h2, h3, by omega, h5, h6⟩
theorem Bag.mono {st : Sto} {b n n' : Nat} (h : Bag st b n) (l : n ≤ n') : Bag st b n' := by
  obtain ⟨c, e, h⟩ := h
  exact ⟨c, e, h.mono l⟩
theorem Bag.app {st : Sto} {b n : Nat} {cs : List Cell} (h : Bag st b n) : Bag (st ++ cs) b n := by
  have := h.lt
  obtain ⟨c, e, h⟩ := h
  exact ⟨c, by rw [List.getElem?_append_left this]; exact e, h⟩
theorem Bag.set {st : Sto} {b k n : Nat} {c : Cell} (h : Bag st b n) (hk : k ≠ b) : Bag (st.set k c) b n := by
  obtain ⟨c, e, h⟩ := h
  exact ⟨c, by rw [List.getElem?_set_ne hk]; exact e, h⟩
theorem BX.refl {b : Nat} {st : Sto} {n : Nat} (h : Bag st b n) : BX b st n st := ⟨.refl, h⟩
theorem BX.trans {b : Nat} {x y z : Sto} {n m : Nat} (h : BX b x n y) (h' : BX b y m z) : BX b x m z := ⟨h.ex.trans h'.ex, h'.bag⟩
theorem BX.mono {b : Nat} {x y : Sto} {n m : Nat} (h : BX b x n y) (l : n ≤ m) : BX b x m y := ⟨h.ex, h.bag.mono l⟩
theorem BX.app {b : Nat} {x y : Sto} {n : Nat} {cs : List Cell} (h : BX b x n y) : BX b x n (y ++ cs) := ⟨h.ex.trans .app, h.bag.app⟩
/-- a cell of one's own, written -/
theorem BX.own {b : Nat} {x y : Sto} {n k : Nat} {c : Cell} (h : BX b x n y) (hk : x.length ≤ k) (hb : k ≠ b) : BX b x n (y.set k c) :=
  ⟨⟨by rw [List.length_set]; exact h.ex.len, fun j hj hjb => by rw [List.getElem?_set_ne (by omega)]; exact h.ex.get j hj hjb⟩, h.bag.set hb⟩
theorem set_same {st : Sto} {b : Nat} {c : Cell} (h : st[b]? = some c) : st.set b c = st := by
  apply List.ext_getElem?
  intro i
  by_cases hi : b = i
  · subst hi; rw [List.getElem?_set_self (List.getElem?_eq_some_iff.mp h).1, h]
  · rw [List.getElem?_set_ne hi]
theorem sem_draw (c : Cl) : ∀ ds st R xq, sp_law_draw c ds st R xq → w_law_draw c (EndsOf R xq) (startD ["_law_bag_here", "_law_many", "_law_found", "_law_cell"] ds) st := by
  rintro ds st R xq ⟨b, m, n, rfl, ⟨_, hb, ns, p, z, q, t, rfl, h1, h2, h3, h4, h5, h6⟩, hm, hm2, hn, k⟩
  have hlt : b < st.length := (List.getElem?_eq_some_iff.mp hb).1
  show w_law_draw c ⟨_, _, _, _, _⟩ [some (.hdl b), some (.int m), none, none] st
  unfold w_law_draw
  walk_at "s"
  refine ifB (fun e => ?_) (fun e => ?_)
  · walk_at "s"
    exact k 0 st (by omega) hm ⟨.refl, _, hb, ns, p, z, q, t, rfl, h1, h2, h3, by omega, h5, h6⟩
  walk_at "s"
  refine dIx_h hb rfl ?_
  walk_at "s"
  refine dSet_l hb rfl ?_
  walk_at "s"
  have hb1 := getElem?_set_same hb
  have fin : ∀ (p' z' : Int) (r : Int), 0 ≤ p' → p' ≤ ns.length → 0 ≤ r → r < m → R (.int r) (st.set b (.lst [.lst (dIs ns), .int p', .int z', .int (q + 1), .int t])) := fun p' z' r g1 g2 g3 g4 =>
    k r _ g3 g4 ⟨.set, _, hb1 _, ns, p', z', q + 1, t, rfl, g1, g2, by omega, by omega, h5, h6⟩
  have md : ∀ x : Int, 0 ≤ x % m ∧ x % m < m := fun x => ⟨Int.emod_nonneg _ (by omega), Int.emod_lt_of_pos _ hm⟩
  have tail : ∀ (p' z' : Int) (d3 : Option D), 0 ≤ p' → p' ≤ ns.length → (sSeq (sAs (mOp dMod (mOp dIx (mVar 0) (mC (.int 2))) (mVar 1)) (gNm 2))
      (sSeq (sAs (mOp dDiv (mOp dIx (mVar 0) (mC (.int 2))) (mVar 1)) (gSb (mVar 0) (mC (.int 2))))
      (sRt (mVar 2)))) (EndsOf R xq) [some (.hdl b), some (.int m), none, d3] (st.set b (.lst [.lst (dIs ns), .int p', .int z', .int (q + 1), .int t])) := by
    intro p' z' d3 g1 g2
    walk_at "s"
    refine dIx_h (hb1 _) rfl ?_
    walk_at "s"
    refine dII_i hm ?_
    walk_at "s"
    refine dIx_h (hb1 _) rfl ?_
    walk_at "s"
    refine dII_i (cdw hm (by omega)) ?_
    walk_at "s"
    refine dSet_l (hb1 _) rfl ?_
    walk_at "s"
    rw [List.set_set]
    exact fin _ _ _ g1 g2 (md _).1 (md _).2
  refine dIx_h (hb1 _) rfl ?_
  walk_at "s"
  refine ifD (fun e1 => ?_) (fun e1 => ?_)
  · walk_at "s"
    refine dIx_h (hb1 _) rfl ?_
    walk_at "s"
    refine dIx_h (hb1 _) rfl ?_
    walk_at "s"
    refine ifB (fun e2 => ?_) (fun e2 => ?_)
    · walk_at "s"
      refine dIx_h (hb1 _) rfl ?_
      walk_at "s"
      refine dIx_h (hb1 _) rfl ?_
      walk_at "s"
      refine ⟨t, q + 1, rfl, h5, h6, by omega, by omega, fun r => ?_⟩
      walk_at "s"
      refine dII_i hm ?_
      exact fin _ _ _ h1 h2 (md _).1 (md _).2
    · walk_at "s"
      refine dIx_h (hb1 _) rfl ?_
      walk_at "s"
      refine ifD (fun _ => ?_) (fun q => absurd e1 q)
      walk_at "s"
      refine dIx_h (hb1 _) rfl ?_
      walk_at "s"
      refine dIx_h (hb1 _) rfl ?_
      have hp : p < ns.length := by
        have : ¬ p = (dIs ns).length := by simpa [xorB] using e2
        simp at this; omega
      refine dIx_l (d := .int (ns[p.toNat]'(by omega))) ?_ ?_
      · simp [atI, ixN, h1, hp]
      generalize ns[p.toNat]'(by omega) = cell
      walk_at "s"
      refine dIx_h (hb1 _) rfl ?_
      walk_at "s"
      refine dSet_l (hb1 _) rfl ?_
      rw [List.set_set]
      walk_at "s"
      refine dII_i ⟨by decide, by decide, by decide⟩ ?_
      walk_at "s"
      refine ifB (fun e3 => ?_) (fun e3 => ?_)
      · walk_at "s"
        refine dII_i (by decide) ?_
        walk_at "s"
        refine dIx_h (hb1 _) rfl ?_
        walk_at "s"
        refine ⟨_, q + 1, rfl, Int.emod_nonneg _ (by decide), Int.emod_lt_of_pos _ (by decide), by omega, by omega, fun r => ?_⟩
        walk_at "s"
        refine dII_i hm ?_
        exact fin _ _ _ (by omega) (by omega) (md _).1 (md _).2
      · walk_at "s"
        refine dII_i ⟨by decide, by decide, by decide⟩ ?_
        walk_at "s"
        refine dSet_l (hb1 _) rfl ?_
        rw [List.set_set]
        exact tail _ _ _ (by omega) (by omega)
  · walk_at "s"
    refine dIx_h (hb1 _) rfl ?_
    walk_at "s"
    refine ifD (fun q => absurd q e1) (fun _ => ?_)
    walk_at "s"
    exact tail _ _ _ h1 h2

theorem sem_law_bag (c : Cl) : ∀ ds st R xq, sp_law_bag c ds st R xq → w_law_bag c (EndsOf R xq) (startD ["_law_script", "_law_total", "_law_cell"] ds) st := by
  rintro ds st R xq ⟨ns, rfl, hl, k⟩
  show w_law_bag c ⟨_, _, _, _, _⟩ [some (.scr (dIs ns)), none, none] st
  unfold w_law_bag
  walk_at "s"
  refine forD_ind (fun xs ρ st' => st' = st ∧ ∃ (ms : List Int) (T : Int) (d : Option D), xs = dIs ms ∧ ρ = [some (.scr (dIs ns)), some (.int T), d] ∧ 0 ≤ T ∧ T < 2305843009213693951) ?_ ?_ _ _ _ ⟨rfl, ns, 1, none, rfl, rfl, by decide, by decide⟩
  · rintro ρ st' ⟨rfl, ms, T, d, e, rfl, h1, h2⟩
    refine ⟨trivial, ?_⟩
    walk_at "s"
    exact k _ ⟨ns, 0, 0, 0, T, rfl, by omega, by omega, by omega, by omega, h1, h2⟩
  · rintro x xs ρ st' K ⟨rfl, ms, T, d, e, rfl, h1, h2⟩ hK
    refine ⟨trivial, ?_⟩
    cases ms with
    | nil => cases e
    | cons m ms =>
    cases e
    walk_at "s"
    refine dMul_i (cmx (by omega) (by omega) (by omega) (by omega)) ?_
    walk_at "s"
    refine dII_i (by decide) ?_
    walk_at "s"
    refine dII_i (by decide) ?_
    walk_at "s"
    exact hK _ _ ⟨rfl, ms, _, _, rfl, rfl, Int.emod_nonneg _ (by decide), Int.emod_lt_of_pos _ (by decide)⟩
theorem sem_law_literal (c : Cl) : ∀ ds st R xq, sp_law_literal c ds st R xq → w_law_literal c (EndsOf R xq) (startD ["_law_bag_here", "_law_variables_here"] ds) st := by
  rintro ds st R xq ⟨b, vs, n, rfl, hb, hv, hl, hvs, hn, k⟩
  have hp : 0 < vs.length := List.length_pos_iff.mpr hv
  show w_law_literal c ⟨_, _, _, _, _⟩ [some (.hdl b), some (.lst (dIs vs))] st
  unfold w_law_literal
  walk_at "s"
  refine ⟨b, _, n, rfl, hb, ?_, ?_, by omega, fun r st1 r0 r1 x1 => ?_⟩
  · simp; exact hp
  · simp; omega
  simp at r1
  have hr : r.toNat < vs.length := by omega
  refine dIx_l (d := .int vs[r.toNat]) (by simp [atI, ixN, r0, r1]) ?_
  have hx := hvs _ (List.getElem_mem hr)
  have hm := List.getElem_mem hr
  generalize vs[r.toNat] = v at hx hm
  walk_at "s"
  refine ⟨b, _, n + 1, rfl, x1.bag, by decide, by decide, by omega, fun q st2 q0 q1 x2 => ?_⟩
  have hq : q = 0 ∨ q = 1 := by omega
  rcases hq with rfl | rfl
  · refine dIx_l rfl ?_
    refine dMul_i (cmx (by omega) (by omega) (by omega) (by omega)) ?_
    rw [Int.mul_one]
    exact k _ _ (.inl hm) (x1.trans x2)
  · refine dIx_l rfl ?_
    refine dMul_i (cmx (by omega) (by omega) (by omega) (by omega)) ?_
    exact k _ _ (.inr (by simpa using hm)) (x1.trans x2)
theorem sem_law_clause (c : Cl) : ∀ ds st R xq, sp_law_clause c ds st R xq → w_law_clause c (EndsOf R xq) (startD ["_law_bag_here", "_law_variables_here", "_law_most", "_law_k"] ds) st := by
  rintro ds st R xq ⟨b, vs, m, n, rfl, hb, hv, hl, hvs, h0, h1, hn, k⟩
  show w_law_clause c ⟨_, _, _, _, _⟩ [some (.hdl b), some (.lst (dIs vs)), some (.int m), none] st
  unfold w_law_clause
  walk_at "s"
  refine ⟨b, _, n, rfl, hb, by omega, by omega, by omega, fun r st1 r0 r1 x1 => ?_⟩
  walk_at "s"
  refine ⟨by omega, by omega, ?_⟩
  refine lcD_ind (fun xs acc st' => ∃ ls : List Int, acc = dIs ls ∧ (ls.length : Int) + xs.length = r ∧ (∀ l ∈ ls, l ∈ vs ∨ -l ∈ vs) ∧ BX b st (n + 1 + 2 * ls.length) st') ?_ ?_ _ _ _ ⟨[], rfl, ?_, by simp, x1⟩
  · rintro acc st' ⟨ls, rfl, h2, h3, h4⟩
    refine ⟨trivial, ?_⟩
    simp at h2
    exact k ls st' (by omega) h3 (h4.mono (by omega))
  · rintro x xs acc st' K ⟨ls, rfl, h2, h3, h4⟩ hK
    refine ⟨trivial, ?_⟩
    simp at h2
    walk_at "s"
    refine ⟨b, vs, _, rfl, h4.bag, hv, hl, hvs, by omega, fun l st2 h5 h6 => ⟨by simp [sizeLine]; omega, hK _ _ ⟨ls ++ [l], by simp, by simp; omega, ?_, (h4.trans h6).mono (by simp; omega)⟩⟩⟩
    intro y hy
    rcases List.mem_append.mp hy with hy | hy
    · exact h3 y hy
    · simp at hy; subst hy; exact h5
  · simp [rngD]; omega


theorem cons_eraseIdx {α : Type} {l : List α} {i : Nat} (h : i < l.length) : (l[i] :: l.eraseIdx i).Perm l := by
  rw [List.eraseIdx_eq_take_drop_succ]
  refine List.perm_middle.symm.trans ?_
  rw [List.getElem_cons_drop, List.take_append_drop]
theorem pop_loop (c : Cl) {b v i j : Nat} {ρ : DEnv} {inv : Sto → Prop} {R : List D → Sto → Prop} {xs0 : List D} {st0 : Sto} {N : Nat} (hN : N < 2 ^ 60) (hinv : ∀ st, inv st) (h0 : ∀ x, (ρ.set i (some x))[0]? = some (some (.hdl b))) (hv : ∀ x, (ρ.set i (some x))[v]? = some (some (.hdl j)))
    (hj : st0.length ≤ j) (hjb : j ≠ b) (hx0 : xs0.length < 2 ^ 20) (k : ∀ ys st', ys.Perm xs0 → BX b st0 N st' → R ys st') :
    ∀ (ks : List D) (acc : List D) (st : Sto) (rest : List D) (n : Nat), st[j]? = some (.lst rest) → ks.length = rest.length → (acc ++ rest).Perm xs0 → BX b st0 n st → n + ks.length ≤ N →
      lcD inv (.nm i) mYes (mMe dPopAt (mVar v) (maCons (mCall (sp_law_draw c) (maCons (mVar 0) (maCons (mCa dLen (maCons (mVar v) maNil)) maNil))) maNil)) ρ R ks acc st
  | [], acc, st, rest, n, e, hl, hp, hb, hn => by
    have : rest = [] := List.length_eq_zero_iff.mp hl.symm
    subst this
    exact ⟨hinv _, k _ _ (by simpa using hp) (hb.mono (by simpa using hn))⟩
  | x :: ks, acc, st, rest, n, e, hl, hp, hb, hn => by
    refine ⟨hinv _, ?_⟩
    simp at hl hn
    have hlen := hp.length_eq
    simp at hlen
    refine tnm_i rfl ?_
    walk_at "s"
    refine mMe_i (mVar_i (hv x) ⟨isLD_h e, ?_⟩)
    refine maCons_i (mCall_i (maCons_i (mVar_i (h0 x) (maCons_i (mCa_i (maCons_i (mVar_i (hv x) (maNil_i (dLen_h e (maNil_i ?_)))))))))) 
    refine ⟨b, _, n, rfl, hb.bag, by omega, by omega, by omega, fun r st1 r0 r1 x1 => maNil_i ?_⟩
    have hr : r.toNat < rest.length := by omega
    have e1 : st1[j]? = some (.lst rest) := x1.ex.cell e hjb
    refine dPopAt_h e1 (k := r.toNat) (d := rest[r.toNat]) ?_ (List.getElem?_eq_getElem hr) (by omega) (by omega) ?_
    · have q1 : ¬ r < 0 := by omega
      simp [seqIndex?, q1, r0, r1]
    refine ⟨by simp [sizeLine]; omega, ?_⟩
    refine pop_loop c hN hinv h0 hv hj hjb hx0 k ks _ _ (rest.eraseIdx r.toNat) (n + 1) (getElem?_set_same e1 _) ?_ ?_ ((hb.trans x1).own hj hjb) (by omega)
    · rw [List.length_eraseIdx, if_pos hr]; omega
    · refine List.Perm.trans ?_ hp
      rw [List.append_assoc]
      refine List.Perm.append_left acc ?_
      simp only [List.singleton_append]
      exact cons_eraseIdx hr

theorem sem_law_shuffled (c : Cl) : ∀ ds st R xq, sp_law_shuffled c ds st R xq → w_law_shuffled c (EndsOf R xq) (startD ["_law_bag_here", "_law_rows", "_law_left", "_law_k"] ds) st := by
  rintro ds st R xq ⟨b, d, xs, n, rfl, hb, hd, hx, hl, hn, k⟩
  show w_law_shuffled c ⟨_, _, _, _, _⟩ [some (.hdl b), some d, none, none] st
  unfold w_law_shuffled
  walk_at "s"
  refine dListH_q hx ?_
  walk_at "s"
  have hb' := hb.lt
  have hx' : dr (st ++ [.lst xs]) d = .lst xs := by
    cases d with
    | hdl j =>
      simp only [dr] at hx ⊢
      split at hx
      · rename_i q
        rw [List.getElem?_append_left (List.getElem?_eq_some_iff.mp q).1, q]; exact hx
      · cases hx
    | lst _ => exact hx
    | non => exact hx
    | bl _ => exact hx
    | int _ => exact hx
    | str _ => exact hx
    | tup _ => exact hx
    | scr _ => exact hx
    | raw _ => exact hx
    | exc _ => exact hx
  refine dLen_q (.inl hx') ?_
  walk_at "s"
  refine ⟨by omega, by omega, ?_⟩
  refine pop_loop c (b := b) (j := st.length) (xs0 := xs) (st0 := st) (N := n + 10000) hn (fun _ => trivial) (fun _ => rfl) (fun _ => rfl) (Nat.le_refl _) (by omega) (by omega) (fun ys st' hp hx => k ys st' hp hx) _ [] _ xs n ?_ ?_ (List.Perm.refl _) ?_ ?_
  · rw [List.getElem?_append_right (Nat.le_refl _)]; simp
  · simp [rngD]
  · exact (BX.refl hb).app
  · simp [rngD]; omega

theorem sem_law_variables (c : Cl) : ∀ ds st R xq, sp_law_variables c ds st R xq → w_law_variables c (EndsOf R xq) (startD ["_law_bag_here", "_law_many", "_law_far", "_law_left", "_law_k"] ds) st := by
  rintro ds st R xq ⟨b, m, n, rfl, hb, h0, h1, hn, k⟩
  show w_law_variables c ⟨_, _, _, _, _⟩ [some (.hdl b), some (.int m), none, none, none] st
  unfold w_law_variables
  walk_at "s"
  refine ⟨b, _, n, rfl, hb, by omega, by omega, by omega, fun r st1 r0 r1 x1 => ?_⟩
  walk_at "s"
  have hf : ∃ f : Int, (if xorB false (decide (r = 3)) = true then 1 else 0) = f ∧ 0 ≤ f ∧ f ≤ 1 := ⟨_, rfl, by split <;> omega, by split <;> omega⟩
  obtain ⟨f, ef, f0, f1⟩ := hf
  rw [ef]
  refine dMul_i (cmx (by omega) (by omega) (by omega) (by omega)) ?_
  walk_at "s"
  refine ⟨by omega, by omega, ?_⟩
  have hb' := hb.lt
  refine lcD_ind (fun xs acc st' => ∃ (ls : List Int) (q : Nat), acc = dIs ls ∧ ls.length = q ∧ xs = rngD q (m.toNat - q) ∧ q ≤ m.toNat ∧ (∀ v ∈ ls, 0 < v ∧ v < 2 ^ 150) ∧ ls.map (· % 100) = (List.range q).map (fun i => ((i : Nat) : Int) + 1) ∧ BX b st (n + 1 + ls.length) st') ?_ ?_ _ _ _ ⟨[], 0, rfl, rfl, by simp, by omega, by simp, rfl, x1⟩
  · rintro acc st' ⟨ls, q, rfl, hq, hx, hm, h3, hmod, h4⟩
    refine ⟨trivial, ?_⟩
    have hqm : ls.length = m.toNat := by
      have := congrArg List.length hx
      simp [rngD] at this; omega
    walk_at "s"
    refine ⟨by omega, by omega, ?_⟩
    have hbl := h4.bag.lt
    refine pop_loop c (b := b) (j := st'.length) (xs0 := dIs ls) (st0 := st) (N := n + 300) hn (fun _ => trivial) (fun _ => rfl) (fun _ => rfl) h4.ex.len (by omega) (by simp; omega) ?_ _ [] _ (dIs ls) (n + 1 + ls.length) ?_ ?_ (List.Perm.refl _) ?_ ?_
    · intro ys st2 hp hx2
      have : ∃ vs, ys = dIs vs ∧ vs.Perm ls := by
        have key : ∀ (ys zs : List D), ys.Perm zs → ∀ ls : List Int, zs = dIs ls → ∃ vs, ys = dIs vs ∧ vs.Perm ls := by
          intro ys zs hp
          induction hp with
          | nil =>
            intro ls e
            cases ls with
            | nil => exact ⟨[], rfl, .refl _⟩
            | cons _ _ => cases e
          | cons x h ih =>
            intro ls e
            cases ls with
            | nil => cases e
            | cons l ls => cases e; obtain ⟨vs, rfl, p⟩ := ih ls rfl; exact ⟨l :: vs, rfl, p.cons _⟩
          | swap x y l =>
            intro ls e
            match ls, e with
            | a :: a' :: ls, e => cases e; exact ⟨a' :: a :: ls, rfl, .swap _ _ _⟩
          | trans h1 h2 ih1 ih2 =>
            intro ls e
            obtain ⟨vs, e2, p⟩ := ih2 ls e
            obtain ⟨ws, e3, p'⟩ := ih1 vs e2
            exact ⟨ws, e3, p'.trans p⟩
        exact key _ _ hp ls rfl
      obtain ⟨vs, rfl, p⟩ := this
      refine k vs st2 (by rw [p.length_eq]; omega) (fun v hv => h3 v (p.mem_iff.mp hv)) (p.nodup_iff.mpr ?_) hx2
      have nd : (ls.map (· % 100)).Nodup := by
        rw [hmod, List.Nodup, List.pairwise_map]
        exact List.nodup_range.imp fun h e => h (by omega)
      exact (List.pairwise_map.mp nd).imp fun h e => h (by rw [e])
    · rw [List.getElem?_append_right (Nat.le_refl _)]; simp
    · simp [rngD]; omega
    · exact h4.app
    · simp [rngD]; omega
  · rintro x xs acc st' K ⟨ls, q, rfl, hq, hx, hm, h3, hmod, h4⟩ hK
    refine ⟨trivial, ?_⟩
    have hlt : q < m.toNat := by
      have := congrArg List.length hx
      simp [rngD] at this; omega
    obtain ⟨w, hw⟩ : ∃ w, m.toNat - q = w + 1 := ⟨m.toNat - q - 1, by omega⟩
    rw [hw] at hx
    have hx2 : rngD (q : Int) (w + 1) = .int q :: rngD ((q + 1 : Nat) : Int) w := by
      unfold rngD
      rw [List.range_succ_eq_map]
      simp
      intro a _
      omega
    rw [hx2] at hx
    cases hx
    walk_at "s"
    refine dII_i ⟨by decide, by decide, by decide⟩ ?_
    walk_at "s"
    refine ⟨b, _, _, rfl, h4.bag, by decide, by decide, by omega, fun r st2 r0 r1 x2 => ?_⟩
    simp at r1
    walk_at "s"
    refine dMul_i (cmx (by omega) (by omega) (by omega) (by omega)) ?_
    have g0 : 0 ≤ r * (100 * f) := Int.mul_nonneg r0 (by omega)
    have g1 : r * (100 * f) ≤ 10 ^ 27 * 100 := Int.mul_le_mul (by omega) (by omega) (by omega) (by omega)
    walk_at "s"
    refine ⟨by simp [sizeLine]; omega, hK _ _ ⟨ls ++ [r * (100 * f) + q + 1], q + 1, by simp, by simp; omega, by rw [show m.toNat - (q + 1) = w by omega], by omega, ?_, ?_, (h4.trans x2).mono (by simp; omega)⟩⟩
    · intro y hy
      rcases List.mem_append.mp hy with hy | hy
      · exact h3 y hy
      · simp only [List.mem_singleton] at hy; subst hy; exact ⟨by omega, by omega⟩
    · rw [List.map_append, hmod, List.range_succ, List.map_append]
      congr 1
      simp only [List.map_cons, List.map_nil, List.cons.injEq, and_true]
      have : r * (100 * f) = 100 * (r * f) := by rw [Int.mul_left_comm]
      rw [this]
      have hq100 : (q : Int) + 1 < 100 := by omega
      omega

theorem dTuple_q {st : Sto} {R : DQ} {d : D} {xs : List D} (e : dr st d = .lst xs ∨ dr st d = .scr xs ∨ dr st d = .tup xs) (h : R (.tup xs) st) : dTuple [d] st R := by
  simp only [dTuple, onQ]; rcases e with e | e | e <;> (rw [e]; exact h)
theorem dList_qq {st : Sto} {R : DQ} {d : D} {xs : List D} (e : dr st d = .lst xs ∨ dr st d = .scr xs ∨ dr st d = .tup xs) (h : R (.lst xs) st) : dList [d] st R := by
  simp only [dList, onQ]; rcases e with e | e | e <;> (rw [e]; exact h)
theorem dListH_qq {st : Sto} {R : DQ} {d : D} {xs : List D} (e : dr st d = .lst xs ∨ dr st d = .scr xs ∨ dr st d = .tup xs) (h : R (.hdl st.length) (st ++ [.lst xs])) : dListH [d] st R := by
  simp only [dListH, onQ]; rcases e with e | e | e <;> (rw [e]; exact h)
theorem rngD_cons (i : Int) (n : Nat) : rngD i (n + 1) = .int i :: rngD (i + 1) n := by
  unfold rngD
  rw [List.range_succ_eq_map]
  simp
  intro a _
  omega
theorem dr_mono {st st' : Sto} {d : D} {xs : List D} (e : dr st d = .lst xs) (h : ∀ j c, d = .hdl j → st[j]? = some c → st'[j]? = some c) : dr st' d = .lst xs := by
  cases d with
  | hdl j =>
    simp only [dr] at e ⊢
    split at e
    · rename_i q
      rw [h j _ rfl q]; exact e
    · cases e
  | lst _ => exact e
  | non => exact e
  | bl _ => exact e
  | int _ => exact e
  | str _ => exact e
  | tup _ => exact e
  | scr _ => exact e
  | raw _ => exact e
  | exc _ => exact e
theorem dr_BX {b n : Nat} {st st' : Sto} {d : D} {xs : List D} (e : dr st d = .lst xs) (hb : d ≠ .hdl b) (x : BX b st n st') : dr st' d = .lst xs :=
  dr_mono e fun j c q z => x.ex.cell z fun w => hb (by rw [q, w])

theorem sem_law_formed (c : Cl) : ∀ ds st R xq, sp_law_formed c ds st R xq → w_law_formed c (EndsOf R xq) (startD ["_law_bag_here", "_law_rows", "_law_kind", "_law_inner", "_law_row"] ds) st := by
  rintro ds st R xq ⟨b, d, rows, n, rfl, hb, hx, hn, hl, k⟩
  show w_law_formed c ⟨_, _, _, _, _⟩ [some (.hdl b), some d, none, none, none] st
  unfold w_law_formed
  walk_at "s"
  refine ⟨b, _, n, rfl, hb, by decide, by decide, by omega, fun r st1 r0 r1 x1 => ?_⟩
  walk_at "s"
  obtain ⟨xs0, hq, _, hqr, _⟩ := hx.bx x1.ex
  refine dIt_q hq fun inv hinv => ?_
  refine lcD_ind (fun xs acc st' => st' = st1 ∧ ∃ rs1 rs2, rows = rs1 ++ rs2 ∧ QRows st1.length st1 xs rs2 ∧ QRows 0 st1 acc rs1) ?_ ?_ _ _ _ ⟨rfl, [], rows, rfl, hqr, trivial⟩
  · rintro acc st' ⟨rfl, rs1, rs2, e, h2, h3⟩
    refine ⟨hinv _ fun _ _ => rfl, ?_⟩
    have : rs2 = [] := by cases rs2 with | nil => rfl | cons _ _ => exact h2.elim
    subst this
    simp at e; subst e
    walk_at "s"
    refine dII_i (by decide) ?_
    walk_at "s"
    refine ifB (fun _ => ?_) (fun _ => ?_)
    · walk_at "s"
      exact k _ _ ⟨acc, .inr (.inl rfl), h3⟩ x1
    · walk_at "s"
      exact k _ _ ⟨acc, .inl rfl, h3⟩ x1
  · rintro x xs acc st' K ⟨rfl, rs1, rs2, e, h2, h3⟩ hK
    refine ⟨hinv _ fun _ _ => rfl, ?_⟩
    cases rs2 with
    | nil => exact h2.elim
    | cons r2 rs2 =>
    obtain ⟨h2, h2'⟩ := h2
    have hacc : acc.length < sizeLine := by
      rw [h3.len]; rw [e] at hl; simp at hl; simp [sizeLine]; omega
    walk_at "s"
    have hx2 := h2.drs
    refine ifB (fun _ => ?_) (fun _ => ?_)
    · walk_at "s"
      refine dTuple_q hx2 ?_
      exact ⟨hacc, hK _ _ ⟨rfl, rs1 ++ [r2], rs2, by simp [e], h2', h3.snoc (.inr (.inl rfl))⟩⟩
    · walk_at "s"
      refine dList_qq hx2 ?_
      exact ⟨hacc, hK _ _ ⟨rfl, rs1 ++ [r2], rs2, by simp [e], h2', h3.snoc (.inl rfl)⟩⟩

theorem mFldU {ρ : DEnv} {st : Sto} {R : DQ} {xq : XQ} {i u n : Nat} {C : Addr} {fs : List (Nat × D)} {d : D} (e : ρ[i]? = some (some (.hdl u))) (hu : st[u]? = some (.ins C fs)) (q : fldN fs n = some d) (h : R d st) : mFld C n (mVar i) ρ st R xq :=
  mFld_i (mVar_i e (onO_h hu ⟨d, q, h⟩))
theorem dIN_k {st : Sto} {R : DQ} {neg : Bool} {j : Nat} {kvs : List (Key × D)} {x : D} {key : Key} (e : st[j]? = some (.dK kvs)) (q : toK x = some key) (h : R (.bl (if neg then !(valD kvs key).isSome else (valD kvs key).isSome)) st) : dIN neg x (.hdl j) st R := by
  simp only [dIN, dr, e]
  exact onK_h e ⟨key, q, h⟩
theorem Shape.lt {C : Addr} {S : List Int} {st : Sto} {u base : Nat} {g : UG} (h : Shape C S st u base g) : u < st.length ∧ g.w < st.length ∧ g.t < st.length ∧ g.tr < st.length := by
  refine ⟨(List.getElem?_eq_some_iff.mp h.hu).1, ?_, (List.getElem?_eq_some_iff.mp h.ht).1, (List.getElem?_eq_some_iff.mp h.htr).1⟩
  obtain ⟨ws, e, _⟩ := h.hw
  exact (List.getElem?_eq_some_iff.mp e).1
theorem Step.refl {g : UG} {st : Sto} {base : Nat} : Step g g st st base := ⟨.refl, fun k h => ⟨h, rfl⟩, fun k h => h⟩
theorem nodup_sub : ∀ {a b : List Int}, a.Nodup → (∀ x ∈ a, x ∈ b) → a.length ≤ b.length
  | [], b, _, _ => by simp
  | x :: a, b, hn, hs => by
    simp only [List.nodup_cons] at hn
    have hx := hs x (by simp)
    have := nodup_sub (a := a) (b := b.erase x) hn.2 fun y hy => (List.mem_erase_of_ne (show y ≠ x from fun e => hn.1 (by rw [← e]; exact hy))).mpr (hs y (by simp [hy]))
    rw [List.length_erase_of_mem hx] at this
    have := List.length_pos_of_mem hx
    simp only [List.length_cons]
    omega
theorem role_ne {g : UG} {i j : Nat} (h : g.role i ≠ g.role j) : i ≠ j := fun e => h (by rw [e])
theorem sem_take (c : Cl) : ∀ ds st R xq, spUnits_take c ds st R xq → wUnits_take c (EndsOf R xq) (startD ["self", "literal"] ds) st := by
  rintro ds st R xq ⟨u, base, l, S, g, rfl, sh, nd, cons, inS, l0, k1, k2, k3⟩
  show wUnits_take c ⟨_, _, _, _, _⟩ [some (.hdl u), some (.int l)] st
  unfold wUnits_take
  walk_at "s"
  refine onO_h sh.hu ⟨_, rfl, isKD_h sh.ht, ?_⟩
  walk_at "s"
  refine onK_h sh.ht ⟨_, rfl, ?_⟩
  rw [valD_tkv _ cons]
  walk_at "s"
  have hl : g.trail.length ≤ S.length := nodup_sub nd inS
  have hbd := sh.bd
  by_cases h1 : l ∈ g.trail
  · rw [if_pos h1]
    show dIsB (.bl true) _ _ _
    walk_at "s"
    refine onO_h sh.hu ⟨_, rfl, ?_⟩
    refine dIN_k sh.ht rfl ?_
    rw [valD_tkv _ cons, if_pos h1]
    walk_at "s"
    exact k2 h1
  rw [if_neg h1]
  by_cases h2 : -l ∈ g.trail
  · rw [if_pos h2]
    show dIsB (.bl false) _ _ _
    walk_at "s"
    exact k1 h2
  rw [if_neg h2]
  show dIsB .non _ _ _
  walk_at "s"
  refine onO_h sh.hu ⟨_, rfl, ?_⟩
  refine dIN_k sh.ht rfl ?_
  rw [valD_tkv _ cons, if_neg h1, if_neg h2]
  walk_at "s"
  refine onO_h sh.hu ⟨_, rfl, ?_⟩
  walk_at "s"
  refine dSet_k sh.ht (by rw [tkv_length]; simp [sizeLine]; omega) rfl ?_
  walk_at "s"
  have n1 : valD (tkv g.trail) (.inl l) = none := by rw [valD_tkv _ cons, if_neg h1, if_neg h2]
  have n2 : valD (tkv g.trail ++ [(.inl l, .bl true)]) (.inl (-l)) = none := by
    rw [valD_app, valD_tkv _ cons, if_neg h2, Int.neg_neg, if_neg h1]
    have : ¬ l = -l := by omega
    simp [this]
  have sut : g.t ≠ u := role_ne (g := g) (by rw [sh.rt, sh.ru]; simp)
  have srt : g.t ≠ g.tr := role_ne (g := g) (by rw [sh.rt, sh.rtr]; simp)
  have swt : g.t ≠ g.w := role_ne (g := g) (by rw [sh.rt, sh.rw]; simp)
  have hu1 : ∀ x, (st.set g.t x)[u]? = _ := fun x => (List.getElem?_set_ne sut).trans sh.hu
  refine onO_h (hu1 _) ⟨_, rfl, ?_⟩
  walk_at "s"
  refine dSet_k (getElem?_set_same sh.ht _) (by rw [putD_new n1]; simp [tkv_length, sizeLine]; omega) rfl ?_
  rw [putD_new n1, putD_new n2, List.set_set]
  walk_at "s"
  refine onO_h (hu1 _) ⟨_, rfl, ?_⟩
  have htr1 : ∀ x, (st.set g.t x)[g.tr]? = _ := fun x => (List.getElem?_set_ne srt).trans sh.htr
  refine ⟨isLD_h (htr1 _), ?_⟩
  walk_at "s"
  refine dApp_h (htr1 _) (by simp [sizeLine]; omega) ?_
  walk_at "s"
  have sut' : g.tr ≠ u := role_ne (g := g) (by rw [sh.rtr, sh.ru]; simp)
  have swt' : g.tr ≠ g.w := role_ne (g := g) (by rw [sh.rtr, sh.rw]; simp)
  have keep : ∀ k, k ≠ g.t → k ≠ g.tr → ((st.set g.t (.dK (tkv g.trail ++ [(.inl l, .bl true)] ++ [(.inl (-l), .bl false)]))).set g.tr (.lst (dIs g.trail ++ [.int l])))[k]? = st[k]? := fun k h1 h2 => by
    rw [List.getElem?_set_ne (Ne.symm h2), List.getElem?_set_ne (Ne.symm h1)]
  refine k3 h1 h2 _ ⟨?_, ?_, ?_, ?_, fun y j e => ?_, sh.hwn, fun h hh => ?_, sh.ru, sh.rw, sh.rt, sh.rtr, fun k hk => ?_, sh.bd⟩ ⟨⟨by simp, fun k hk => keep k ?_ ?_⟩, fun k hk => ⟨hk, keep k ?_ ?_⟩, fun k hk => hk⟩
  · rw [keep u sut.symm sut'.symm]; exact sh.hu
  · obtain ⟨ws, e, h⟩ := sh.hw
    exact ⟨ws, by rw [keep _ swt.symm swt'.symm]; exact e, h⟩
  · show _ = some (Cell.dK (tkv (g.trail ++ [l])))
    rw [List.getElem?_set_ne srt.symm, getElem?_set_same sh.ht, tkv_snoc]
  · show _ = some (Cell.lst (dIs (g.trail ++ [l])))
    rw [getElem?_set_same (htr1 _)]
    simp
  · obtain ⟨e1, e2⟩ := sh.hwl y j e
    refine ⟨?_, e2⟩
    rw [keep j (role_ne (g := g) (by rw [e2, sh.rt]; simp)) (role_ne (g := g) (by rw [e2, sh.rtr]; simp))]
    exact e1
  · obtain ⟨e1, e2⟩ := sh.hrow h hh
    refine ⟨?_, e2⟩
    rw [keep h (role_ne (g := g) (by rw [e2, sh.rt]; simp)) (role_ne (g := g) (by rw [e2, sh.rtr]; simp))]
    exact e1
  · rw [List.length_set, List.length_set]; exact sh.own k hk
  · intro e; subst e; have := (sh.own g.t (by rw [sh.rt]; simp)).1; omega
  · intro e; subst e; have := (sh.own g.tr (by rw [sh.rtr]; simp)).1; omega
  · exact role_ne (g := g) (by rw [hk, sh.rt]; simp)
  · exact role_ne (g := g) (by rw [hk, sh.rtr]; simp)

theorem get_app {α : Type} {l : List α} {i : Nat} {a : α} {cs : List α} (h : l[i]? = some a) : (l ++ cs)[i]? = some a := by
  rw [List.getElem?_append_left (List.getElem?_eq_some_iff.mp h).1]; exact h
theorem get_last {α : Type} {l : List α} {a : α} : (l ++ [a])[l.length]? = some a := by
  rw [List.getElem?_append_right (Nat.le_refl _)]; simp
section
variable {C : Addr} {S : List Int} {st st' : Sto} {u base : Nat} {g : UG}
theorem Shape.app {cs : List Cell} (h : Shape C S st u base g) : Shape C S (st ++ cs) u base g := by
  obtain ⟨ws, e, hw⟩ := h.hw
  refine ⟨get_app h.hu, ⟨ws, get_app e, hw⟩, get_app h.ht, get_app h.htr, fun l j q => ⟨get_app (h.hwl l j q).1, (h.hwl l j q).2⟩, h.hwn, fun k q => ⟨get_app (h.hrow k q).1, (h.hrow k q).2⟩, h.ru, h.rw, h.rt, h.rtr, fun k q => ?_, h.bd⟩
  have := h.own k q
  rw [List.length_append]; omega
/-- the cells of one's own are as they were -/
theorem Shape.keep (h : Shape C S st u base g) (hk : ∀ k, g.role k ≠ .no → g.role k ≠ .lf → st'[k]? = st[k]?) (hl : st.length ≤ st'.length) : Shape C S st' u base g := by
  obtain ⟨ws, e, hw⟩ := h.hw
  refine ⟨(hk _ (by rw [h.ru]; simp) (by rw [h.ru]; simp)).trans h.hu, ⟨ws, (hk _ (by rw [h.rw]; simp) (by rw [h.rw]; simp)).trans e, hw⟩, (hk _ (by rw [h.rt]; simp) (by rw [h.rt]; simp)).trans h.ht, (hk _ (by rw [h.rtr]; simp) (by rw [h.rtr]; simp)).trans h.htr,
    fun l j q => ⟨(hk _ (by rw [(h.hwl l j q).2]; simp) (by rw [(h.hwl l j q).2]; simp)).trans (h.hwl l j q).1, (h.hwl l j q).2⟩, h.hwn, fun k q => ⟨(hk _ (by rw [(h.hrow k q).2]; simp) (by rw [(h.hrow k q).2]; simp)).trans (h.hrow k q).1, (h.hrow k q).2⟩, h.ru, h.rw, h.rt, h.rtr, fun k q => ?_, h.bd⟩
  have := h.own k q
  omega
/-- a watchers' list, written -/
theorem Shape.setW {x : Int} {j : Nat} {ks : List Nat} (h : Shape C S st u base g) (e : g.wl x = some j) : Shape C S (st.set j (.lst (dHs ks))) u base { g with wr := fun y => if y = x then ks else g.wr y } := by
  have hj := (h.hwl x j e).2
  have k : ∀ i, g.role i ≠ .wl x → (st.set j (.lst (dHs ks)))[i]? = st[i]? := fun i q => List.getElem?_set_ne (role_ne (g := g) (by rw [hj]; exact q.symm))
  obtain ⟨ws, e', hw⟩ := h.hw
  refine ⟨(k _ (by rw [h.ru]; simp)).trans h.hu, ⟨ws, (k _ (by rw [h.rw]; simp)).trans e', hw⟩, (k _ (by rw [h.rt]; simp)).trans h.ht, (k _ (by rw [h.rtr]; simp)).trans h.htr, fun l i q => ⟨?_, (h.hwl l i q).2⟩, fun l q => ?_,
    fun i q => ⟨(k _ (by rw [(h.hrow i q).2]; simp)).trans (h.hrow i q).1, (h.hrow i q).2⟩, h.ru, h.rw, h.rt, h.rtr, fun i q => by rw [List.length_set]; exact h.own i q, h.bd⟩
  · show _ = some (Cell.lst (dHs (if l = x then ks else g.wr l)))
    by_cases c : l = x
    · subst c
      have q' : g.wl l = some i := q
      rw [e] at q'; cases q'
      rw [if_pos rfl, getElem?_set_same (h.hwl l j e).1]
    · rw [if_neg c]
      refine (k _ ?_).trans (h.hwl l i q).1
      rw [(h.hwl l i q).2]
      intro z; cases z; exact c rfl
  · show (if l = x then ks else g.wr l) = []
    by_cases c : l = x
    · subst c
      have q' : g.wl l = none := q
      rw [e] at q'; cases q'
    · rw [if_neg c]; exact h.hwn l q
theorem putD_val {kvs : List (Key × D)} {k k' : Key} {v : D} : valD (putD kvs k v) k' = if k = k' then some v else valD kvs k' := by
  unfold putD valD
  by_cases hc : (kvs.any fun kv => decide (kv.1 = k)) = true
  · rw [if_pos hc]
    induction kvs with
    | nil => simp at hc
    | cons kv kvs ih =>
      simp only [List.map_cons, List.find?_cons]
      by_cases a : kv.1 = k
      · by_cases b : k = k'
        · subst b; simp [a]
        · have b' : ¬ kv.1 = k' := fun q => b (a.symm.trans q)
          rw [if_pos a]
          simp only [b, b', decide_false, if_false]
          by_cases hr : (kvs.any fun kv => decide (kv.1 = k)) = true
          · have := ih hr
            rw [if_neg b] at this
            exact this
          · have hm : kvs.map (fun kv => if kv.1 = k then (kv.1, v) else kv) = kvs := by
              conv => rhs; rw [← List.map_id kvs]
              apply List.map_congr_left
              intro y hy
              have : ¬ y.1 = k := fun q => hr (List.any_eq_true.mpr ⟨y, hy, by simp [q]⟩)
              simp [this]
            rw [hm]
      · rw [if_neg a]
        by_cases b : kv.1 = k'
        · have : ¬ k = k' := fun q => a (b.trans q.symm)
          simp [b, this]
        · have hr : (kvs.any fun kv => decide (kv.1 = k)) = true := by simpa [a] using hc
          simp only [b, decide_false]
          exact ih hr
  · rw [if_neg hc]
    rw [List.find?_append]
    have hn : (kvs.find? fun kv => decide (kv.1 = k)) = none := by
      rw [List.find?_eq_none]
      intro y hy
      intro q
      exact hc (List.any_eq_true.mpr ⟨y, hy, q⟩)
    by_cases b : k = k'
    · subst b; rw [hn]; simp
    · simp [b]
theorem putD_keys {kvs : List (Key × D)} {k : Key} {v : D} : (putD kvs k v).map (·.1) = if (kvs.any fun kv => decide (kv.1 = k)) = true then kvs.map (·.1) else kvs.map (·.1) ++ [k] := by
  unfold putD
  split
  · rw [List.map_map]
    apply List.map_congr_left
    intro y _
    simp only [Function.comp]
    split <;> rfl
  · simp
theorem putD_ok {kvs : List (Key × D)} {x : Int} {v : D} (hn : (kvs.map (·.1)).Nodup) (hs : ∀ k ∈ kvs.map (·.1), ∃ l ∈ S, k = .inl l) (hx : x ∈ S) :
    ((putD kvs (.inl x) v).map (·.1)).Nodup ∧ ∀ k ∈ (putD kvs (.inl x) v).map (·.1), ∃ l ∈ S, k = .inl l := by
  rw [putD_keys]
  split
  · exact ⟨hn, hs⟩
  · rename_i q
    refine ⟨?_, fun k hk => ?_⟩
    · rw [List.nodup_append]
      refine ⟨hn, by simp, fun a ha b hb => ?_⟩
      simp at hb; subst hb
      intro e; subst e
      obtain ⟨y, hy, hq⟩ := List.mem_map.mp ha
      exact q (List.any_eq_true.mpr ⟨y, hy, by simp [hq]⟩)
    · rcases List.mem_append.mp hk with hk | hk
      · exact hs k hk
      · simp at hk; exact ⟨x, hx, hk⟩
theorem keys_len {kvs : List (Key × D)} (hn : (kvs.map (·.1)).Nodup) (hs : ∀ k ∈ kvs.map (·.1), ∃ l ∈ S, k = .inl l) : kvs.length ≤ S.length := by
  have : ∀ ks : List Key, ks.Nodup → (∀ k ∈ ks, ∃ l ∈ S, k = .inl l) → ∃ ls : List Int, ls.Nodup ∧ ls.length = ks.length ∧ (∀ l ∈ ls, l ∈ S) ∧ ∀ l ∈ ls, (.inl l : Key) ∈ ks := by
    intro ks
    induction ks with
    | nil => intro _ _; exact ⟨[], by simp⟩
    | cons k ks ih =>
      intro hn hs
      simp only [List.nodup_cons] at hn
      obtain ⟨ls, a, b, c, d⟩ := ih hn.2 fun k hk => hs k (by simp [hk])
      obtain ⟨l, hl, rfl⟩ := hs k (by simp)
      refine ⟨l :: ls, ?_, by simp [b], ?_, ?_⟩
      · simp only [List.nodup_cons]; exact ⟨fun q => hn.1 (d l q), a⟩
      · intro y hy; rcases List.mem_cons.mp hy with rfl | hy
        · exact hl
        · exact c y hy
      · intro y hy; rcases List.mem_cons.mp hy with rfl | hy
        · simp
        · simp [d y hy]
  obtain ⟨ls, a, b, c, d⟩ := this _ hn hs
  have := nodup_sub a c
  simp at b; omega
/-- a watchers' list put under a literal -/
theorem Shape.newW {x : Int} {j : Nat} {ks : List Nat} {ws : List (Key × D)} (h : Shape C S st u base g) (hr : g.role j = .no ∨ g.role j = .lf) (hb : base ≤ j) (hx : x ∈ S) (ej : st[j]? = some (.lst (dHs ks)))
    (e : st[g.w]? = some (.dK ws)) (hw1 : ∀ l, valD ws (.inl l) = (g.wl l).map D.hdl) (hw2 : (ws.map (·.1)).Nodup) (hw3 : ∀ k ∈ ws.map (·.1), ∃ l ∈ S, k = .inl l) :
    Shape C S (st.set g.w (.dK (putD ws (.inl x) (.hdl j)))) u base { g with wl := fun y => if y = x then some j else g.wl y, wr := fun y => if y = x then ks else g.wr y, role := fun i => if i = j then .wl x else if g.role i = .wl x then .no else g.role i } := by
  have nj : ∀ i, g.role i ≠ .no → g.role i ≠ .lf → i ≠ j := fun i a b e => by subst e; rcases hr with hr | hr; exact a hr; exact b hr
  have k : ∀ i, g.role i ≠ .w → (st.set g.w (.dK (putD ws (.inl x) (.hdl j))))[i]? = st[i]? := fun i q => List.getElem?_set_ne (role_ne (g := g) (by rw [h.rw]; exact q.symm))
  have hjw : g.role j ≠ .w := by rcases hr with hr | hr <;> rw [hr] <;> simp
  have role' : ∀ i r, g.role i = r → r ≠ .no → r ≠ .lf → r ≠ .wl x → (if i = j then Role.wl x else if g.role i = .wl x then .no else g.role i) = r := fun i r e a b c => by
    rw [if_neg (nj i (by rw [e]; exact a) (by rw [e]; exact b)), if_neg (by rw [e]; exact c), e]
  refine ⟨(k _ (by rw [h.ru]; simp)).trans h.hu, ⟨_, getElem?_set_same e _, fun l => ?_, putD_ok hw2 hw3 hx⟩, (k _ (by rw [h.rt]; simp)).trans h.ht, (k _ (by rw [h.rtr]; simp)).trans h.htr, fun l i q => ?_, fun l q => ?_,
    fun i q => ⟨(k _ (by rw [(h.hrow i q).2]; simp)).trans (h.hrow i q).1, role' i _ (h.hrow i q).2 (by simp) (by simp) (by simp)⟩, role' _ _ h.ru (by simp) (by simp) (by simp), role' _ _ h.rw (by simp) (by simp) (by simp), role' _ _ h.rt (by simp) (by simp) (by simp), role' _ _ h.rtr (by simp) (by simp) (by simp), fun i q => ?_, h.bd⟩
  · rw [putD_val, hw1]
    show _ = Option.map D.hdl (if l = x then some j else g.wl l)
    by_cases c : l = x
    · subst c; simp
    · have : ¬ (Sum.inl x : Key) = .inl l := fun z => c (by cases z; rfl)
      rw [if_neg this, if_neg c]
  · have q' : (if l = x then some j else g.wl l) = some i := q
    show _ = some (Cell.lst (dHs (if l = x then ks else g.wr l))) ∧ (if i = j then Role.wl x else if g.role i = .wl x then .no else g.role i) = .wl l
    by_cases c : l = x
    · subst c
      rw [if_pos rfl] at q' ⊢
      cases q'
      exact ⟨(k _ hjw).trans ej, if_pos rfl⟩
    · rw [if_neg c] at q' ⊢
      have hh := h.hwl l i q'
      exact ⟨(k _ (by rw [hh.2]; simp)).trans hh.1, role' i _ hh.2 (by simp) (by simp) (by intro z; cases z; exact c rfl)⟩
  · have q' : (if l = x then some j else g.wl l) = none := q
    show (if l = x then ks else g.wr l) = []
    by_cases c : l = x
    · rw [if_pos c] at q'; cases q'
    · rw [if_neg c] at q' ⊢; exact h.hwn l q'
  · rw [List.length_set]
    have q' : (if i = j then Role.wl x else if g.role i = .wl x then .no else g.role i) ≠ .no := q
    by_cases c : i = j
    · subst c; exact ⟨hb, (List.getElem?_eq_some_iff.mp ej).1⟩
    · rw [if_neg c] at q'
      by_cases c2 : g.role i = .wl x
      · rw [if_pos c2] at q'; exact absurd rfl q'
      · rw [if_neg c2] at q'; exact h.own i q'
end

/-- what a row put to a literal's watchers leaves -/
structure Wa (g g' : UG) (h : Nat) (x : Int) : Prop where
  wx : g'.wr x = g.wr x ++ [h]
  wo : ∀ y, y ≠ x → g'.wr y = g.wr y
  wl : ∀ y, g.wl y ≠ none → g'.wl y = g.wl y
  row : g'.row = g.row
  RH : g'.RH = g.RH
  trail : g'.trail = g.trail
  gone : g'.gone = g.gone
  broken : g'.broken = g.broken
theorem setd_app (c : Cl) {S : List Int} {st : Sto} {u base h iu ir : Nat} {g : UG} {x : Int} {wk : ME} {ρ : DEnv} {nx bk ct : DEnv → Sto → Prop} {rt : DQ} {xq : XQ}
    (sh : Shape c.Units S st u base g) (hbase : base ≤ st.length) (iu0 : ρ[iu]? = some (some (.hdl u))) (ir0 : ρ[ir]? = some (some (.hdl h))) (hx : x ∈ S) (hl : (g.wr x).length < 1000000)
    (hk : ∀ R : DQ, R (.int x) st → wk ρ st R xq)
    (k : ∀ g' st', Shape c.Units S st' u base g' → Step g g' st st' base → Wa g g' h x → nx ρ st') :
    sEx (mMe dApp (mSetd (mFld c.Units 0 (mVar iu)) wk (mLstH maNil)) (maCons (mVar ir) maNil)) ⟨nx, rt, bk, ct, xq⟩ ρ st := by
  obtain ⟨ws, e, hw1, hw2, hw3⟩ := sh.hw
  have hbd := sh.bd
  have hwl := keys_len hw2 hw3
  refine sEx_i (mMe_i (mSetd_i (mFldU iu0 sh.hu rfl ⟨isKD_h e, hk _ ?_⟩)))
  walk_at "s"
  refine onK_h (get_app e) ⟨by simp [sizeLine]; omega, _, rfl, ?_⟩
  rw [hw1]
  cases hwx : g.wl x with
  | some j =>
    obtain ⟨e1, e2⟩ := sh.hwl x j hwx
    show isLD _ (.hdl j) ∧ _
    refine ⟨isLD_h (get_app e1), maCons_i (mVar_i ir0 (maNil_i ?_))⟩
    refine dApp_h (get_app e1) (by simp [sizeLine]; omega) ?_
    have sh2 := (sh.app (cs := [.lst []])).setW (ks := g.wr x ++ [h]) hwx
    simp only [dHs, List.map_append, List.map_cons, List.map_nil] at sh2
    refine k _ _ sh2 ⟨(Fr.refl.app hbase).set (sh.own j (by rw [e2]; simp)).1, fun i hi => ⟨hi, ?_⟩, fun _ q => q⟩ ⟨if_pos rfl, fun y hy => if_neg hy, fun _ _ => rfl, rfl, rfl, rfl, rfl, rfl⟩
    rw [List.getElem?_set_ne (role_ne (g := g) (by rw [e2, hi]; simp)), List.getElem?_append_left (sh.own i (by rw [hi]; simp)).2]
  | none =>
    show isLD _ (.hdl st.length) ∧ _
    have hn : g.role st.length = .no := by
      rcases Classical.em (g.role st.length = .no) with q | q
      · exact q
      · have := (sh.own _ q).2; omega
    have hwn : st.length ≠ g.w := fun q => absurd hn (by rw [q, sh.rw]; simp)
    have e4 : ((st ++ [Cell.lst []]).set g.w (.dK (putD ws (.inl x) (.hdl st.length))))[st.length]? = some (.lst []) := by
      rw [List.getElem?_set_ne hwn.symm]; exact get_last
    refine ⟨isLD_h e4, maCons_i (mVar_i ir0 (maNil_i ?_))⟩
    refine dApp_h e4 (by simp [sizeLine]) ?_
    have e5 : (st ++ [Cell.lst [.hdl h]])[st.length]? = some (.lst (dHs [h])) := get_last
    have sh2 := (sh.app (cs := [.lst [.hdl h]])).newW (x := x) (j := st.length) (ks := [h]) (ws := ws) (.inl hn) hbase hx e5 (get_app e) hw1 hw2 hw3
    have ecell : ((st ++ [Cell.lst []]).set g.w (.dK (putD ws (.inl x) (.hdl st.length)))).set st.length (.lst ([] ++ [.hdl h])) = (st ++ [Cell.lst [.hdl h]]).set g.w (.dK (putD ws (.inl x) (.hdl st.length))) := by
      rw [List.set_comm _ _ hwn.symm]
      congr 1
      rw [List.set_append]
      simp
    rw [ecell]
    have nwx : ∀ i, g.role i ≠ .wl x ∨ True := fun _ => .inr trivial
    refine k _ _ sh2 ⟨(Fr.refl.app hbase).set (sh.own g.w (by rw [sh.rw]; simp)).1, fun i hi => ⟨?_, ?_⟩, fun i q => ?_⟩ ⟨?_, fun y hy => if_neg hy, fun y hy => ?_, rfl, rfl, rfl, rfl, rfl⟩
    · show (if i = st.length then Role.wl x else if g.role i = .wl x then .no else g.role i) = _
      rw [if_neg (fun q => by rw [q, hn] at hi; cases hi), if_neg (by rw [hi]; simp), hi]
    · rw [List.getElem?_set_ne (role_ne (g := g) (by rw [sh.rw, hi]; simp)), List.getElem?_append_left (sh.own i (by rw [hi]; simp)).2]
    · have q' : (if i = st.length then Role.wl x else if g.role i = .wl x then .no else g.role i) = .lf := q
      split at q'
      · cases q'
      · split at q'
        · cases q'
        · exact q'
    · show (if x = x then [h] else g.wr x) = _
      rw [if_pos rfl, sh.hwn x hwx]; rfl
    · show (if y = x then some st.length else g.wl y) = _
      rw [if_neg (fun q => hy (by rw [q]; exact hwx))]

/-- a row's cell, written -/
theorem Shape.setRow {C : Addr} {S : List Int} {st : Sto} {u base h : Nat} {g : UG} {r : List Int} (sh : Shape C S st u base g) (hh : h ∈ g.RH) : Shape C S (st.set h (.lst (dIs r))) u base { g with row := fun k => if k = h then r else g.row k } := by
  obtain ⟨e, hr⟩ := sh.hrow h hh
  have k : ∀ i, g.role i ≠ .row → (st.set h (.lst (dIs r)))[i]? = st[i]? := fun i q => List.getElem?_set_ne (role_ne (g := g) (by rw [hr]; exact q.symm))
  obtain ⟨ws, e', hw⟩ := sh.hw
  refine ⟨(k _ (by rw [sh.ru]; simp)).trans sh.hu, ⟨ws, (k _ (by rw [sh.rw]; simp)).trans e', hw⟩, (k _ (by rw [sh.rt]; simp)).trans sh.ht, (k _ (by rw [sh.rtr]; simp)).trans sh.htr, fun l i q => ⟨(k _ (by rw [(sh.hwl l i q).2]; simp)).trans (sh.hwl l i q).1, (sh.hwl l i q).2⟩, sh.hwn, fun i q => ⟨?_, (sh.hrow i q).2⟩, sh.ru, sh.rw, sh.rt, sh.rtr, fun i q => by rw [List.length_set]; exact sh.own i q, sh.bd⟩
  show _ = some (Cell.lst (dIs (if i = h then r else g.row i)))
  by_cases c : i = h
  · subst c; rw [if_pos rfl, getElem?_set_same e]
  · rw [if_neg c, List.getElem?_set_ne (Ne.symm c)]; exact (sh.hrow i q).1
theorem atI_ints {ns : List Int} {i : Nat} (h : i < ns.length) : atI (dIs ns) (i : Int) = some (.int ns[i]) := by
  have h0 : (0 : Int) ≤ i := by omega
  have h1 : (i : Int) < ns.length := by omega
  simp [atI, ixN, h0, h1]
theorem ixN_nat {n i : Nat} (h : i < n) : ixN n (i : Int) = some i := by
  have h0 : (0 : Int) ≤ i := by omega
  have h1 : (i : Int) < n := by omega
  simp [ixN, h0, h1]
/-- what the search for another watch does -/
theorem moved_loop (c : Cl) {S : List Int} {u base h : Nat} {l a : Int} {g : UG} {st : Sto} {rest : List Int} {R : DQ} {xq : XQ} {d3 : Option D} (sh : Shape c.Units S st u base g) (hh : h ∈ g.RH) (hr : g.row h = a :: l :: rest) (hn : (g.row h).Nodup)
    (hS : ∀ l ∈ g.row h, l ∈ S) (hlen : rest.length < 1000000) (cons : ∀ l ∈ g.trail, -l ∉ g.trail) (hwr : ∀ x, (g.wr x).length < 1000000) (hb : base ≤ st.length)
    (k1 : ∀ g' st' x i, (hi : i < rest.length) → x = rest[i] → -x ∉ g.trail → Shape c.Units S st' u base g' → Step g g' st st' base → Wa { g with row := fun k => if k = h then a :: x :: rest.set i l else g.row k } g' h x → R (.bl true) st')
    (k2 : (∀ m ∈ rest, -m ∈ g.trail) → R (.bl false) st) :
    (sSeq (sFor (miR2 (maCons (mC (.int 2)) (maCons (mCa dLen (maCons (mVar 1) maNil)) maNil))) (gNm 3)
  (sIf (mTest (mOp dNotB (mGet1 (mFld c.Units 1 (mVar 0)) (mOp dIx (mVar 1) (mVar 3))) (mC (.bl false))))
  (sSeq (sAs (mTup (maCons (mOp dIx (mVar 1) (mVar 3)) (maCons (mOp dIx (mVar 1) (mC (.int 1))) maNil))) (gTp 2 (gsCons (gSb (mVar 1) (mC (.int 1))) (gsCons (gSb (mVar 1) (mVar 3)) gsNil))))
  (sSeq (sEx (mMe dApp (mSetd (mFld c.Units 0 (mVar 0)) (mOp dIx (mVar 1) (mC (.int 1))) (mLstH maNil)) (maCons (mVar 1) maNil)))
  (sRt (mC (.bl true)))))
  sNx))
  (sRt (mC (.bl false)))) (EndsOf R xq) [some (.hdl u), some (.hdl h), some (.int l), d3] st := by
  obtain ⟨e, hro⟩ := sh.hrow h hh
  rw [hr] at e
  walk_at "s"
  refine dLen_h e ?_
  walk_at "s"
  refine ⟨⟨by omega, by omega, by omega, by simp; omega⟩, ?_⟩
  refine forD_ind (fun xs ρ st' => st' = st ∧ ∃ (i : Nat) (d : Option D), xs = rngD (2 + i) (rest.length - i) ∧ i ≤ rest.length ∧ ρ = [some (.hdl u), some (.hdl h), some (.int l), d] ∧ ∀ m ∈ rest.take i, -m ∈ g.trail) ?_ ?_ _ _ _ ⟨rfl, 0, _, ?_, by omega, rfl, by simp⟩
  · rintro ρ st' ⟨rfl, i, d, hx, hi, rfl, hf⟩
    refine ⟨trivial, ?_⟩
    have : i = rest.length := by
      have := congrArg List.length hx
      simp [rngD] at this; omega
    subst this
    rw [List.take_length] at hf
    walk_at "s"
    exact k2 hf
  · rintro x xs ρ st' K ⟨rfl, i, d, hx, hi, rfl, hf⟩ hK
    refine ⟨trivial, ?_⟩
    have hlt : i < rest.length := by
      have := congrArg List.length hx
      simp [rngD] at this; omega
    obtain ⟨w, hw⟩ : ∃ w, rest.length - i = w + 1 := ⟨rest.length - i - 1, by omega⟩
    rw [hw, rngD_cons] at hx
    cases hx
    walk_at "s"
    have e2 : (2 : Int) + (i : Int) = ((i + 2 : Nat) : Int) := by omega
    rw [e2]
    have hix : atI (dIs (a :: l :: rest)) ((i + 2 : Nat) : Int) = some (.int rest[i]) := by
      rw [atI_ints (by simp; omega)]; simp
    refine onO_h sh.hu ⟨_, rfl, isKD_h sh.ht, ?_⟩
    walk_at "s"
    refine dIx_h e hix ?_
    refine onK_h sh.ht ⟨_, rfl, ?_⟩
    rw [valD_tkv _ cons]
    walk_at "s"
    have next : -rest[i] ∈ g.trail → K [some (.hdl u), some (.hdl h), some (.int l), some (.int ((i + 2 : Nat) : Int))] st' := by
      intro q
      refine hK _ _ ⟨rfl, i + 1, _, ?_, by omega, rfl, ?_⟩
      · rw [show rest.length - (i + 1) = w by omega, show (2 : Int) + ((i + 1 : Nat) : Int) = 2 + i + 1 by omega]
      · intro m hm
        rw [List.take_succ_eq_append_getElem hlt] at hm
        rcases List.mem_append.mp hm with hm | hm
        · exact hf m hm
        · simp at hm; subst hm; exact q
    have found : -rest[i] ∉ g.trail → (sSeq (sAs (mTup (maCons (mOp dIx (mVar 1) (mVar 3)) (maCons (mOp dIx (mVar 1) (mC (.int 1))) maNil))) (gTp 2 (gsCons (gSb (mVar 1) (mC (.int 1))) (gsCons (gSb (mVar 1) (mVar 3)) gsNil))))
        (sSeq (sEx (mMe dApp (mSetd (mFld c.Units 0 (mVar 0)) (mOp dIx (mVar 1) (mC (.int 1))) (mLstH maNil)) (maCons (mVar 1) maNil)))
        (sRt (mC (.bl true))))) ⟨K, R, fun ρ1 st1 => sRt (mC (D.bl false)) (EndsOf R xq) ρ1 st1, K, xq⟩ [some (.hdl u), some (.hdl h), some (.int l), some (.int ((i + 2 : Nat) : Int))] st' := by
      intro q
      walk_at "s"
      refine dIx_h e hix ?_
      walk_at "s"
      refine dIx_h (d := .int l) e (atI_ints (ns := a :: l :: rest) (i := 1) (by simp)) ?_
      walk_at "s"
      refine dSet_l e (m := 1) (by simpa using ixN_nat (n := (dIs (a :: l :: rest)).length) (i := 1) (by simp)) ?_
      walk_at "s"
      refine dSet_l (getElem?_set_same e _) (m := i + 2) (ixN_nat (by simp; omega)) ?_
      rw [List.set_set]
      walk_at "s1"
      walk_at "s1"
      have er : ((dIs (a :: l :: rest)).set 1 (.int rest[i])).set (i + 2) (.int l) = dIs (a :: rest[i] :: rest.set i l) := by
        simp [List.map_set]
      rw [er]
      refine setd_app c (S := S) (u := u) (base := base) (x := rest[i]) (h := h) (sh.setRow hh) (by rw [List.length_set]; exact hb) rfl rfl (hS _ (by rw [hr]; simp)) (hwr _) (fun R1 h1 => ?_) (fun g' st2 sh' sp wa => ?_)
      · walk_at "s"
        exact dIx_h (d := .int rest[i]) (getElem?_set_same e _) (atI_ints (ns := a :: rest[i] :: rest.set i l) (i := 1) (by simp)) h1
      · walk_at "s"
        refine k1 g' st2 _ i hlt rfl q sh' ⟨⟨?_, fun k hk => ?_⟩, fun k hk => ?_, fun k hk => sp.lf k hk⟩ wa
        · have := sp.fr.len
          rw [List.length_set] at this; exact this
        · rw [sp.fr.get k hk]
          have := (sh.own h (by rw [hro]; simp)).1
          exact List.getElem?_set_ne (by omega)
        · obtain ⟨a1, a2⟩ := sp.role k hk
          refine ⟨a1, a2.trans ?_⟩
          exact List.getElem?_set_ne (role_ne (g := g) (by rw [hro]; have : g.role k = .lf := hk; rw [this]; simp))
    by_cases q1 : rest[i] ∈ g.trail
    · rw [if_pos q1]
      have q := cons _ q1
      show dNotB (.bl true) _ _ _
      walk_at "s"
      exact found q
    · rw [if_neg q1]
      by_cases q2 : -rest[i] ∈ g.trail
      · rw [if_pos q2]
        show dNotB (.bl false) _ _ _
        walk_at "s"
        exact next q2
      · rw [if_neg q2]
        show dNotB .non _ _ _
        walk_at "s"
        exact found q2
  · simp; congr 1; omega

theorem set_perm {α : Type} : ∀ {l : List α} {i : Nat} {a : α} (h : i < l.length), (l[i] :: l.set i a).Perm (a :: l)
  | x :: l, 0, a, h => by simp; exact .swap _ _ _
  | x :: l, i + 1, a, h => by
    simp only [List.getElem_cons_succ, List.set_cons_succ]
    have h' : i < l.length := by simpa using h
    exact ((List.Perm.swap _ _ _).trans ((set_perm h').cons x)).trans (.swap _ _ _)
theorem moved_rest (c : Cl) {S : List Int} {u base h : Nat} {l a : Int} {g0 g : UG} {st0 st : Sto} {rest : List Int} {R : DQ} {xq : XQ} {d3 : Option D} (sh : Shape c.Units S st u base g) (hh : h ∈ g.RH) (hr : g.row h = a :: l :: rest) (hn : (g.row h).Nodup)
    (hS : ∀ l ∈ g.row h, l ∈ S) (hlen : rest.length < 1000000) (cons : ∀ l ∈ g.trail, -l ∉ g.trail) (hwr : ∀ x, (g.wr x).length < 1000000) (hb : base ≤ st.length)
    (hg : ∃ row, g = { g0 with row := row } ∧ ∀ k, k ≠ h → row k = g0.row k) (s0 : Step g0 g st0 st base) (hp : Pair (g0.row h) l a) (hpm : (g.row h).Perm (g0.row h))
    (k1 : ∀ g' st' x, Mv g0 g' h l a x → Shape c.Units S st' u base g' → Step g0 g' st0 st' base → R (.bl true) st')
    (k2 : ∀ g' st', Nm g0 g' h l a → Shape c.Units S st' u base g' → Step g0 g' st0 st' base → R (.bl false) st') :
    (sSeq (sFor (miR2 (maCons (mC (.int 2)) (maCons (mCa dLen (maCons (mVar 1) maNil)) maNil))) (gNm 3)
  (sIf (mTest (mOp dNotB (mGet1 (mFld c.Units 1 (mVar 0)) (mOp dIx (mVar 1) (mVar 3))) (mC (.bl false))))
  (sSeq (sAs (mTup (maCons (mOp dIx (mVar 1) (mVar 3)) (maCons (mOp dIx (mVar 1) (mC (.int 1))) maNil))) (gTp 2 (gsCons (gSb (mVar 1) (mC (.int 1))) (gsCons (gSb (mVar 1) (mVar 3)) gsNil))))
  (sSeq (sEx (mMe dApp (mSetd (mFld c.Units 0 (mVar 0)) (mOp dIx (mVar 1) (mC (.int 1))) (mLstH maNil)) (maCons (mVar 1) maNil)))
  (sRt (mC (.bl true)))))
  sNx))
  (sRt (mC (.bl false)))) (EndsOf R xq) [some (.hdl u), some (.hdl h), some (.int l), d3] st := by
  obtain ⟨row, rfl, hrow⟩ := hg
  have hr' : row h = a :: l :: rest := hr
  refine moved_loop c sh hh hr hn hS hlen cons hwr hb (fun g' st' x i hi hx nx sh' sp wa => ?_) (fun hf => ?_)
  · have e1 : g'.row h = a :: x :: rest.set i l := by rw [wa.row]; exact if_pos rfl
    have hmem : x ∈ rest := by rw [hx]; exact List.getElem_mem hi
    have hn' : (a :: l :: rest).Nodup := hr ▸ hn
    simp only [List.nodup_cons, List.mem_cons, not_or] at hn'
    refine k1 g' st' x ⟨hp, .inl ⟨by rw [e1]; rfl, by rw [e1]; rfl⟩, hpm.mem_iff.mp (by show x ∈ row h; rw [hr']; simp [hmem]), fun e => hn'.2.1 (e ▸ hmem), fun e => hn'.1.2 (e ▸ hmem), nx, ?_, fun k hk => ?_, wa.wx, wa.wo, wa.wl, wa.RH, wa.trail, wa.gone, wa.broken⟩ sh' ?_
    · refine List.Perm.trans ?_ hpm
      show (g'.row h).Perm (row h)
      rw [e1, hr', hx]
      exact (set_perm hi).cons a
    · rw [wa.row]
      show (if k = h then _ else row k) = _
      rw [if_neg hk]; exact hrow k hk
    · exact ⟨s0.fr.trans sp.fr, fun k hk => ⟨(sp.role k (s0.role k hk).1).1, (sp.role k (s0.role k hk).1).2.trans (s0.role k hk).2⟩, fun k hk => s0.lf k (sp.lf k hk)⟩
  · refine k2 _ st ⟨hp, by show (row h)[0]? = _; rw [hr']; rfl, by show (row h)[1]? = _; rw [hr']; rfl, hpm, fun m hm ha hl => ?_, hrow, rfl, rfl, rfl, rfl, rfl, rfl⟩ sh s0
    have := hpm.mem_iff.mpr hm
    have this' : m ∈ row h := this
    rw [hr'] at this'
    simp only [List.mem_cons] at this'
    rcases this' with q | q | q
    · exact absurd q ha
    · exact absurd q hl
    · exact hf m q
theorem sem_moved (c : Cl) : ∀ ds st R xq, spUnits_moved c ds st R xq → wUnits_moved c (EndsOf R xq) (startD ["self", "row", "literal", "at"] ds) st := by
  rintro ds st R xq ⟨u, base, h, l, S, g, rfl, sh, hh, hn, h2, hlen, hS, hw, cons, hwr, k1, k2⟩
  show wUnits_moved c ⟨_, _, _, _, _⟩ [some (.hdl u), some (.hdl h), some (.int l), none] st
  unfold wUnits_moved
  obtain ⟨e, hro⟩ := sh.hrow h hh
  have hb : base ≤ st.length := by have := sh.own u (by rw [sh.ru]; simp); omega
  obtain ⟨a0, a1, rest, hr⟩ : ∃ a0 a1 rest, g.row h = a0 :: a1 :: rest := by
    match hq : g.row h, h2 with
    | a0 :: a1 :: rest, _ => exact ⟨a0, a1, rest, rfl⟩
  have hl' : rest.length < 1000000 := by rw [hr] at hlen; simp at hlen; omega
  rw [hr] at e
  refine sSeq_i ?_
  walk_at "s"
  refine dIx_h (d := .int a0) e (atI_ints (ns := a0 :: a1 :: rest) (i := 0) (by simp)) ?_
  walk_at "s"
  have hne : a0 ≠ a1 := by
    rw [hr] at hn
    simp only [List.nodup_cons, List.mem_cons, not_or] at hn
    exact hn.1.1
  by_cases hq : a0 = l
  · subst hq
    refine ifT (by simp [xorB]) ?_
    walk_at "s"
    refine dIx_h (d := .int a1) e (atI_ints (ns := a0 :: a1 :: rest) (i := 1) (by simp)) ?_
    walk_at "s"
    refine dIx_h (d := .int a0) e (atI_ints (ns := a0 :: a1 :: rest) (i := 0) (by simp)) ?_
    walk_at "s"
    refine dSet_l e (m := 0) (ixN_nat (n := (dIs (a0 :: a1 :: rest)).length) (i := 0) (by simp)) ?_
    walk_at "s"
    refine dSet_l (getElem?_set_same e _) (m := 1) (by simpa using ixN_nat (n := (dIs (a0 :: a1 :: rest)).length) (i := 1) (by simp)) ?_
    rw [List.set_set]
    walk_at "s1"
    have er : ((dIs (a0 :: a1 :: rest)).set 0 (.int a1)).set 1 (.int a0) = dIs (a1 :: a0 :: rest) := by simp
    rw [er]
    have sh' := sh.setRow (r := a1 :: a0 :: rest) hh
    have e1 : (if h = h then a1 :: a0 :: rest else g.row h) = a1 :: a0 :: rest := if_pos rfl
    refine moved_rest c (g0 := g) (st0 := st) (a := a1) (rest := rest) sh' hh e1 ?_ ?_ hl' cons hwr (by rw [List.length_set]; exact hb) ⟨_, rfl, fun k hk => if_neg hk⟩ ⟨Fr.refl.set (sh.own h (by rw [hro]; simp)).1, fun k hk => ⟨hk, List.getElem?_set_ne (role_ne (g := g) (by rw [hro, hk]; simp))⟩, fun _ q => q⟩
      (.inl ⟨by rw [hr]; rfl, by rw [hr]; rfl⟩) ?_ (fun g' st' x => k1 g' st' a1 x) (fun g' st' => k2 g' st' a1)
    · show (if h = h then a1 :: a0 :: rest else g.row h).Nodup
      rw [e1]
      rw [hr] at hn
      exact (List.Perm.swap _ _ _).nodup_iff.mp hn
    · show ∀ l ∈ (if h = h then a1 :: a0 :: rest else g.row h), _
      rw [e1]
      intro m hm
      exact hS m (by rw [hr]; exact (List.Perm.swap _ _ _).mem_iff.mp hm)
    · show (if h = h then a1 :: a0 :: rest else g.row h).Perm _
      rw [e1, hr]
      exact .swap _ _ _
  · refine ifF (by simp [xorB, hq]) ?_
    walk_at "s1"
    have : a1 = l := by
      rcases hw with q | q
      · rw [hr] at q; simp at q; exact absurd q hq
      · rw [hr] at q; simp at q; exact q
    subst this
    exact moved_rest c (g0 := g) (st0 := st) (a := a0) (rest := rest) sh hh hr hn hS hl' cons hwr hb ⟨_, rfl, fun k hk => rfl⟩ .refl (.inr ⟨by rw [hr]; rfl, by rw [hr]; rfl⟩) (.refl _) (fun g' st' x => k1 g' st' a0 x) (fun g' st' => k2 g' st' a0)

/-! ## a pass over a literal's watchers, plain -/
def LI (g : UG) (l : Int) (ls : List Nat) : Prop := ls.Nodup ∧ (∀ h, h ∈ ls ↔ h ∈ g.RH ∧ Wat (g.row h) l) ∧ ∀ y, y ≠ l → (g.wr y).Nodup ∧ ∀ h, h ∈ g.wr y ↔ h ∈ g.RH ∧ Wat (g.row h) y
def WI (g : UG) (l : Int) (rem : List Nat) : Prop := ∀ h ∈ g.RH, ∀ a b, Pair (g.row h) a b → -a ∈ g.trail.take g.gone → b ∈ g.trail ∨ (a = l ∧ h ∈ rem)
theorem Pair.wat {r : List Int} {a b : Int} (h : Pair r a b) (y : Int) : Wat r y ↔ y = a ∨ y = b := by
  unfold Wat
  rcases h with ⟨h1, h2⟩ | ⟨h1, h2⟩
  · rw [h1, h2]; simp [eq_comm]
  · rw [h1, h2]; simp [eq_comm]; exact Or.comm
theorem Pair.mem {r : List Int} {a b : Int} (h : Pair r a b) : a ∈ r ∧ b ∈ r := by
  rcases h with ⟨h1, h2⟩ | ⟨h1, h2⟩
  · exact ⟨List.mem_of_getElem? h1, List.mem_of_getElem? h2⟩
  · exact ⟨List.mem_of_getElem? h2, List.mem_of_getElem? h1⟩
theorem Pair.ne {r : List Int} {a b : Int} (h : Pair r a b) (hn : r.Nodup) : a ≠ b := by
  intro e
  subst e
  have : r[0]? = some a ∧ r[1]? = some a := by rcases h with ⟨h1, h2⟩ | ⟨h1, h2⟩ <;> exact ⟨by assumption, by assumption⟩
  obtain ⟨h1, h2⟩ := this
  obtain ⟨l1, e1⟩ := List.getElem?_eq_some_iff.mp h1
  obtain ⟨l2, e2⟩ := List.getElem?_eq_some_iff.mp h2
  exact absurd ((List.getElem_inj hn).mp (e1.trans e2.symm)) (by decide)
theorem Pair.two {r : List Int} {a b p q : Int} (h : Pair r a b) (h' : Pair r p q) : (p = a ∧ q = b) ∨ (p = b ∧ q = a) := by
  rcases h with ⟨h1, h2⟩ | ⟨h1, h2⟩ <;> rcases h' with ⟨h3, h4⟩ | ⟨h3, h4⟩ <;> rw [h1] at h3 <;> rw [h2] at h4 <;> cases h3 <;> cases h4 <;> simp
section
variable {F : List (List Int)} {A : Int → Prop} {S t0 : List Int} {g g' : UG} {h : Nat} {l a x : Int} {lefts rem : List Nat}
theorem Core.inT (c : Core F S t0 g) {y : Int} (hy : y ∈ t0) : y ∈ g.trail := c.pre.subset hy
theorem Core.mv (c : Core F S t0 g) (m : Mv g g' h l a x) (hh : h ∈ g.RH) (hl : -l ∈ g.trail) : Core F S t0 g' := by
  have lt : l ∉ g.trail := fun q => c.cons l q hl
  refine ⟨by rw [m.trail]; exact c.nd, by rw [m.trail]; exact c.cons, by rw [m.trail]; exact c.inS, by rw [m.trail]; exact c.pre, by rw [m.gone, m.trail]; exact c.gl, fun k hk => ?_, fun k hk => ?_, by rw [m.RH]; exact c.RHnd, by rw [m.RH]; exact c.RHb, fun k hk p q hp hpt => ?_, c.ng⟩
  · rw [m.RH] at hk
    by_cases e : k = h
    · subst e
      obtain ⟨b1, b2, b3⟩ := c.rnd k hk
      exact ⟨m.perm.nodup_iff.mpr b1, by rw [m.perm.length_eq]; exact b2, fun y hy => b3 y (m.perm.mem_iff.mp hy)⟩
    · rw [m.rows k e]; exact c.rnd k hk
  · rw [m.RH] at hk
    by_cases e : k = h
    · subst e
      obtain ⟨cl, b1, b2, b3⟩ := c.rF k hk
      exact ⟨cl, b1, fun y hy => b2 y (m.perm.mem_iff.mp hy), fun y hy hn => b3 y hy fun q => hn (m.perm.mem_iff.mpr q)⟩
    · rw [m.rows k e]; exact c.rF k hk
  · rw [m.RH] at hk
    by_cases e : k = h
    · subst e
      rcases m.p'.two hp with ⟨rfl, rfl⟩ | ⟨rfl, rfl⟩
      · exact absurd (c.inT (c.iB k hk _ _ m.p.symm hpt)) lt
      · exact absurd (c.inT hpt) m.nx
    · rw [m.rows k e] at hp; exact c.iB k hk p q hp hpt
theorem Nm.pair (m : Nm g g' h l a) : Pair (g'.row h) a l := .inl ⟨m.p0, m.p1⟩
theorem Core.nm (c : Core F S t0 g) (m : Nm g g' h l a) (hh : h ∈ g.RH) : Core F S t0 g' := by
  refine ⟨by rw [m.trail]; exact c.nd, by rw [m.trail]; exact c.cons, by rw [m.trail]; exact c.inS, by rw [m.trail]; exact c.pre, by rw [m.gone, m.trail]; exact c.gl, fun k hk => ?_, fun k hk => ?_, by rw [m.RH]; exact c.RHnd, by rw [m.RH]; exact c.RHb, fun k hk p q hp hpt => ?_, c.ng⟩
  · rw [m.RH] at hk
    by_cases e : k = h
    · subst e
      obtain ⟨b1, b2, b3⟩ := c.rnd k hk
      exact ⟨m.perm.nodup_iff.mpr b1, by rw [m.perm.length_eq]; exact b2, fun y hy => b3 y (m.perm.mem_iff.mp hy)⟩
    · rw [m.rows k e]; exact c.rnd k hk
  · rw [m.RH] at hk
    by_cases e : k = h
    · subst e
      obtain ⟨cl, b1, b2, b3⟩ := c.rF k hk
      exact ⟨cl, b1, fun y hy => b2 y (m.perm.mem_iff.mp hy), fun y hy hn => b3 y hy fun q => hn (m.perm.mem_iff.mpr q)⟩
    · rw [m.rows k e]; exact c.rF k hk
  · rw [m.RH] at hk
    by_cases e : k = h
    · subst e
      rcases m.pair.two hp with ⟨rfl, rfl⟩ | ⟨rfl, rfl⟩
      · exact c.iB k hk _ _ m.p.symm hpt
      · exact c.iB k hk _ _ m.p hpt
    · rw [m.rows k e] at hp; exact c.iB k hk p q hp hpt
theorem Core.tk (c : Core F S t0 g) (h1 : a ∉ g.trail) (h2 : -a ∉ g.trail) (hS : a ∈ S) (h0 : a ≠ 0) : Core F S t0 { g with trail := g.trail ++ [a] } := by
  refine ⟨?_, ?_, ?_, c.pre.trans (List.prefix_append _ _), ?_, c.rnd, c.rF, c.RHnd, c.RHb, c.iB, c.ng⟩
  · show (g.trail ++ [a]).Nodup
    rw [List.nodup_append]
    refine ⟨c.nd, by simp, fun y hy z hz => ?_⟩
    simp at hz; subst hz
    exact fun e => h1 (e ▸ hy)
  · show ∀ y ∈ g.trail ++ [a], -y ∉ g.trail ++ [a]
    intro y hy q
    rcases List.mem_append.mp hy with hy | hy
    · rcases List.mem_append.mp q with q | q
      · exact c.cons y hy q
      · simp at q; have : y = -a := by omega
        subst this; exact h2 hy
    · simp at hy; subst hy
      rcases List.mem_append.mp q with q | q
      · exact h2 q
      · simp at q; omega
  · show ∀ y ∈ g.trail ++ [a], y ∈ S
    intro y hy
    rcases List.mem_append.mp hy with hy | hy
    · exact c.inS y hy
    · simp at hy; subst hy; exact hS
  · show g.gone ≤ (g.trail ++ [a]).length
    have := c.gl
    simp; omega
theorem LI.mv (q : LI g l (lefts ++ h :: rem)) (m : Mv g g' h l a x) (hn : (g.row h).Nodup) : LI g' l (lefts ++ rem) := by
  obtain ⟨q1, q2, q3⟩ := q
  have nl : l ≠ a := m.p.ne hn
  have hw : ∀ y, Wat (g.row h) y ↔ y = l ∨ y = a := m.p.wat
  have hw' : ∀ y, Wat (g'.row h) y ↔ y = a ∨ y = x := m.p'.wat
  have hh : h ∈ g.RH := ((q2 h).mp (by simp)).1
  have q1' : (h :: (lefts ++ rem)).Nodup := List.perm_middle.nodup_iff.mp q1
  simp only [List.nodup_cons] at q1'
  refine ⟨q1'.2, fun k => ?_, fun y hy => ?_⟩
  · rw [m.RH]
    by_cases e : k = h
    · subst e
      rw [hw']
      refine ⟨fun z => absurd z q1'.1, fun z => ?_⟩
      rcases z.2 with z | z
      · exact absurd z nl
      · exact absurd z.symm m.xl
    · rw [m.rows k e, ← q2 k]
      simp [e]
  · by_cases ex : y = x
    · subst ex
      obtain ⟨b1, b2⟩ := q3 y m.xl
      have hx : h ∉ g.wr y := fun z => by
        rcases (hw y).mp ((b2 h).mp z).2 with z | z
        · exact m.xl z
        · exact m.xa z
      rw [m.wx]
      refine ⟨?_, fun k => ?_⟩
      · rw [List.nodup_append]
        refine ⟨b1, by simp, fun u hu v hv => ?_⟩
        simp at hv; subst hv
        exact fun e => hx (e ▸ hu)
      · rw [List.mem_append, b2, m.RH]
        by_cases e : k = h
        · subst e
          simp [hw', hh]
        · rw [m.rows k e]; simp [e]
    · rw [m.wo y ex]
      obtain ⟨b1, b2⟩ := q3 y hy
      refine ⟨b1, fun k => ?_⟩
      rw [b2, m.RH]
      by_cases e : k = h
      · subst e
        rw [hw, hw']
        simp [hy, ex]
      · rw [m.rows k e]
theorem LI.nm {ls : List Nat} (q : LI g l ls) (m : Nm g g' h l a) : LI g' l ls := by
  obtain ⟨q1, q2, q3⟩ := q
  have key : ∀ k y, Wat (g'.row k) y ↔ Wat (g.row k) y := by
    intro k y
    by_cases e : k = h
    · subst e; rw [m.pair.wat, m.p.wat]; exact Or.comm
    · rw [m.rows k e]
  refine ⟨q1, fun k => ?_, fun y hy => ?_⟩
  · rw [m.RH, key]; exact q2 k
  · rw [m.wr]
    refine ⟨(q3 y hy).1, fun k => ?_⟩
    rw [m.RH, key]; exact (q3 y hy).2 k
theorem WI.mv (w : WI g l (h :: rem)) (c : Core F S t0 g) (m : Mv g g' h l a x) (hh : h ∈ g.RH) (hl : -l ∈ g.trail) : WI g' l rem := by
  have lt : l ∉ g.trail := fun q => c.cons l q hl
  intro k hk p q hp hpt
  rw [m.RH] at hk
  rw [m.trail, m.gone] at hpt
  rw [m.trail]
  by_cases e : k = h
  · subst e
    rcases m.p'.two hp with ⟨rfl, rfl⟩ | ⟨rfl, rfl⟩
    · rcases w k hk _ _ m.p.symm hpt with z | ⟨z, _⟩
      · exact absurd z lt
      · exact absurd z.symm (m.p.ne (c.rnd k hk).1)
    · exact absurd (List.mem_of_mem_take hpt) m.nx
  · rw [m.rows k e] at hp
    rcases w k hk p q hp hpt with z | ⟨z1, z2⟩
    · exact .inl z
    · exact .inr ⟨z1, by simpa [e] using z2⟩
/-- the row's other is true at last -/
theorem WI.nm {tr : List Int} (w : WI g l (h :: rem)) (c : Core F S t0 g) (m : Nm g g' h l a) (hh : h ∈ g.RH) (ht : ∃ t, tr = g.trail ++ t) (ha : a ∈ tr) (hna : -a ∉ g.trail) : WI { g' with trail := tr } l rem := by
  obtain ⟨t, rfl⟩ := ht
  intro k hk p q hp hpt
  have hk' : k ∈ g.RH := by rw [← m.RH]; exact hk
  have hpt' : -p ∈ g.trail.take g.gone := by
    have z : -p ∈ (g.trail ++ t).take g'.gone := hpt
    rw [m.gone, List.take_append_of_le_length c.gl] at z
    exact z
  show q ∈ g.trail ++ t ∨ _
  by_cases e : k = h
  · subst e
    rcases m.pair.two hp with ⟨rfl, rfl⟩ | ⟨rfl, rfl⟩
    · exact absurd (List.mem_of_mem_take hpt') hna
    · exact .inl ha
  · have hp' : Pair (g.row k) p q := by rw [← m.rows k e]; exact hp
    rcases w k hk' p q hp' hpt' with z | ⟨z1, z2⟩
    · exact .inl (List.mem_append_left _ z)
    · exact .inr ⟨z1, by simpa [e] using z2⟩
/-- all but one of a row are false: the one follows -/
theorem Core.unit (c : Core F S t0 g) (s : Sound F A g) (m : Nm g g' h l a) (hh : h ∈ g.RH) (hl : -l ∈ g.trail) : UP F A a := by
  obtain ⟨cl, b1, b2, b3⟩ := c.rF h hh
  refine .unit b1 (b2 a m.p.mem.2) fun y hy hya => ?_
  by_cases e : y ∈ g.row h
  · by_cases el : y = l
    · subst el; exact s _ hl
    · exact s _ (m.fa y e hya el)
  · exact s _ (c.inT (b3 y hy e))
theorem Core.clash (c : Core F S t0 g) (s : Sound F A g) (m : Nm g g' h l a) (hh : h ∈ g.RH) (hl : -l ∈ g.trail) (ha : -a ∈ g.trail) : Conf F A := by
  obtain ⟨cl, b1, b2, b3⟩ := c.rF h hh
  refine ⟨cl, b1, fun y hy => ?_⟩
  by_cases e : y ∈ g.row h
  · by_cases el : y = l
    · subst el; exact s _ hl
    · by_cases ea : y = a
      · subst ea; exact s _ ha
      · exact s _ (m.fa y e ea el)
  · exact s _ (c.inT (b3 y hy e))
end

/-- what holds on the way -/
structure SI (C : Addr) (F : List (List Int)) (A : Int → Prop) (S t0 : List Int) (u base : Nat) (g0 : UG) (st0 : Sto) (g : UG) (st : Sto) : Prop where
  sh : Shape C S st u base g
  fr : Fr base st0 st
  core : Core F S t0 g
  pre : g0.trail <+: g.trail
  perm : ∀ h, (g.row h).Perm (g0.row h)
  RH : g.RH = g0.RH
  snd : Sound F A g
  brk : g.broken = g0.broken
theorem Shape.fld {C : Addr} {S : List Int} {st : Sto} {u base : Nat} {g : UG} (sh : Shape C S st u base g) (n : Nat) (b : Bool) :
    Shape C S (st.set u (.ins C [(0, .hdl g.w), (1, .hdl g.t), (2, .hdl g.tr), (3, .int n), (4, .bl b)])) u base { g with gone := n, broken := b } := by
  have k : ∀ i, g.role i ≠ .u → (st.set u (.ins C [(0, .hdl g.w), (1, .hdl g.t), (2, .hdl g.tr), (3, .int n), (4, .bl b)]))[i]? = st[i]? := fun i q => List.getElem?_set_ne (role_ne (g := g) (by rw [sh.ru]; exact q.symm))
  obtain ⟨ws, e', hw⟩ := sh.hw
  exact ⟨getElem?_set_same sh.hu _, ⟨ws, (k _ (by rw [sh.rw]; simp)).trans e', hw⟩, (k _ (by rw [sh.rt]; simp)).trans sh.ht, (k _ (by rw [sh.rtr]; simp)).trans sh.htr, fun l i q => ⟨(k _ (by rw [(sh.hwl l i q).2]; simp)).trans (sh.hwl l i q).1, (sh.hwl l i q).2⟩, sh.hwn, fun i q => ⟨(k _ (by rw [(sh.hrow i q).2]; simp)).trans (sh.hrow i q).1, (sh.hrow i q).2⟩, sh.ru, sh.rw, sh.rt, sh.rtr, fun i q => by rw [List.length_set]; exact sh.own i q, sh.bd⟩
/-- a list of one's own -/
theorem Shape.mine {C : Addr} {S : List Int} {st : Sto} {u base : Nat} {g : UG} {c : Cell} (sh : Shape C S st u base g) : Shape C S (st ++ [c]) u base { g with role := fun i => if i = st.length then .lf else g.role i } := by
  have hn : g.role st.length = .no := by
    rcases Classical.em (g.role st.length = .no) with q | q
    · exact q
    · have := (sh.own _ q).2; omega
  have hb : base ≤ st.length := by have := sh.own u (by rw [sh.ru]; simp); omega
  have s2 := sh.app (cs := [c])
  have k : ∀ i r, g.role i = r → r ≠ .no → (if i = st.length then Role.lf else g.role i) = r := fun i r e n => by
    rw [if_neg (fun q => n (by rw [← e, q, hn])), e]
  refine ⟨s2.hu, s2.hw, s2.ht, s2.htr, fun l j q => ⟨(s2.hwl l j q).1, k _ _ (s2.hwl l j q).2 (by simp)⟩, s2.hwn, fun i q => ⟨(s2.hrow i q).1, k _ _ (s2.hrow i q).2 (by simp)⟩, k _ _ s2.ru (by simp), k _ _ s2.rw (by simp), k _ _ s2.rt (by simp), k _ _ s2.rtr (by simp), fun i q => ?_, s2.bd⟩
  have q' : (if i = st.length then Role.lf else g.role i) ≠ .no := q
  by_cases c : i = st.length
  · subst c; rw [List.length_append]; exact ⟨hb, by simp⟩
  · rw [if_neg c] at q'; exact s2.own i q'
theorem nodup_subN : ∀ {a b : List Nat}, a.Nodup → (∀ x ∈ a, x ∈ b) → a.length ≤ b.length
  | [], b, _, _ => by simp
  | x :: a, b, hn, hs => by
    simp only [List.nodup_cons] at hn
    have hx := hs x (by simp)
    have := nodup_subN (a := a) (b := b.erase x) hn.2 fun y hy => (List.mem_erase_of_ne (show y ≠ x from fun e => hn.1 (by rw [← e]; exact hy))).mpr (hs y (by simp [hy]))
    rw [List.length_erase_of_mem hx] at this
    have := List.length_pos_of_mem hx
    simp only [List.length_cons]
    omega
theorem sem_spread (c : Cl) : ∀ ds st R xq, spUnits_spread c ds st R xq → wUnits_spread c (EndsOf R xq) (startD ["self", "literal", "some", "left", "fine", "row"] ds) st := by
  rintro ds st0 R xq ⟨u, base, F, A, S, t0, g0, rfl, sh0, co0, li0, wa0, so0, nl0, k⟩
  show wUnits_spread c ⟨_, _, _, _, _⟩ [some (.hdl u), none, none, none, none, none] st0
  unfold wUnits_spread
  walk_at "s1"
  have hb : ∀ {g : UG} {st : Sto}, Shape c.Units S st u base g → base ≤ st.length := fun sh => by have := sh.own u (by rw [sh.ru]; simp); omega
  have hbd := sh0.bd
  refine ⟨fun m ρ st => ∃ g d1 d2 d3 d4 d5, ρ = [some (.hdl u), d1, d2, d3, d4, d5] ∧ SI c.Units F A S t0 u base g0 st0 g st ∧ Listed g ∧ Watched g ∧ (∀ k, g.role k ≠ .lf) ∧ m = S.length - g.gone, ⟨_, g0, none, none, none, none, none, rfl, ⟨sh0, .refl, co0, List.prefix_refl _, fun _ => .refl _, rfl, so0, rfl⟩, li0, wa0, nl0, rfl⟩, ?_⟩
  rintro m ρ st ⟨g, d1, d2, d3, d4, d5, rfl, si, li, wa, nl, rfl⟩
  have htl : g.trail.length ≤ S.length := nodup_sub si.core.nd si.core.inS
  walk_at "s"
  refine onO_h si.sh.hu ⟨_, rfl, ?_⟩
  walk_at "s"
  refine onO_h si.sh.hu ⟨_, rfl, ?_⟩
  walk_at "s"
  refine dLen_h si.sh.htr ?_
  walk_at "s"
  refine ifD (fun hlt => ?_) (fun hge => ?_)
  rotate_left
  · walk_at "s"
    have := si.core.gl
    have hge' : ¬ (g.gone < g.trail.length) := by simpa using hge
    exact k true g st si.sh si.fr si.core li si.pre si.perm si.RH si.snd (fun _ => ⟨by omega, wa⟩) (fun q => by cases q) si.brk nl
  have hlt' : g.gone < g.trail.length := by simpa using hlt
  walk_at "s"
  refine onO_h si.sh.hu ⟨_, rfl, ?_⟩
  walk_at "s"
  refine onO_h si.sh.hu ⟨_, rfl, ?_⟩
  refine dIx_h si.sh.htr (atI_ints hlt') ?_
  walk_at "s"
  obtain ⟨p, hp⟩ : ∃ p, g.trail[g.gone] = p := ⟨_, rfl⟩
  have hpt : p ∈ g.trail := hp ▸ List.getElem_mem hlt'
  rw [hp]
  generalize hl : -p = l
  have hlp : -l ∈ g.trail := by rw [← hl, Int.neg_neg]; exact hpt
  refine onO_h si.sh.hu ⟨_, rfl, ?_⟩
  walk_at "s"
  refine onO_h si.sh.hu ⟨by simp, ?_⟩
  have sh1 := si.sh.fld (g.gone + 1) g.broken
  have ecell : (st.set u (.ins c.Units (putN 3 (.int ((g.gone : Int) + 1)) [(0, .hdl g.w), (1, .hdl g.t), (2, .hdl g.tr), (3, .int g.gone), (4, .bl g.broken)]))) = (st.set u (.ins c.Units [(0, .hdl g.w), (1, .hdl g.t), (2, .hdl g.tr), (3, .int ((g.gone + 1 : Nat) : Int)), (4, .bl g.broken)])) := by
    simp
  rw [ecell]
  generalize hst1 : (st.set u (.ins c.Units [(0, .hdl g.w), (1, .hdl g.t), (2, .hdl g.tr), (3, .int ((g.gone + 1 : Nat) : Int)), (4, .bl g.broken)])) = st1 at sh1
  have fr1 : Fr base st0 st1 := hst1 ▸ si.fr.set (si.sh.own u (by rw [si.sh.ru]; simp)).1
  walk_at "s"
  obtain ⟨ws, ew, hw1, hw2, hw3⟩ := sh1.hw
  refine onO_h sh1.hu ⟨_, rfl, isKD_h ew, ?_⟩
  walk_at "s"
  refine onK_h ew ⟨_, rfl, ?_⟩
  rw [hw1]
  obtain ⟨dsome, hds⟩ : ∃ d, (Option.map D.hdl (g.wl l)).getD (.lst []) = d := ⟨_, rfl⟩
  rw [hds]
  walk_at "s"
  have sh2 := sh1.mine (c := .lst [])
  -- the pass
  have iter : ∀ kk : List D → (Sto → Prop) → Sto → Prop, (∀ inv : Sto → Prop, (∀ gg st', Shape c.Units S st' u base gg → gg.wl l = g.wl l → gg.wr l = g.wr l → inv st') → kk (dHs (g.wr l)) inv (st1 ++ [.lst []])) → dIt dsome (st1 ++ [.lst []]) kk := by
    intro kk hkk
    cases hwl : g.wl l with
    | none =>
      rw [hwl] at hds; subst hds
      refine dIt_l ?_
      have := hkk noInv (fun _ _ _ _ _ => trivial)
      rw [si.sh.hwn l hwl] at this
      exact this
    | some j =>
      rw [hwl] at hds; subst hds
      refine dIt_h (xs := dHs (g.wr l)) (get_app (sh1.hwl l j hwl).1) (hkk _ fun gg st' sh' e1 e2 => ?_)
      have := (sh'.hwl l j (e1.trans hwl)).1
      rw [e2] at this; exact this
  refine iter _ fun inv hinv => ?_
  have nw0 : WI { g with gone := g.gone + 1, role := fun i => if i = st1.length then .lf else g.role i } l (g.wr l) := by
    intro h hh a b hpr ht
    have ht' : -a ∈ g.trail.take (g.gone + 1) := ht
    rw [List.take_succ_eq_append_getElem hlt', hp] at ht'
    rcases List.mem_append.mp ht' with q | q
    · exact .inl (wa h hh a b hpr q)
    · simp at q
      have : a = l := by omega
      subst this
      exact .inr ⟨rfl, ((li a).2 h).mpr ⟨hh, (hpr.wat a).mpr (.inl rfl)⟩⟩
  have core1 : Core F S t0 { g with gone := g.gone + 1, role := fun i => if i = st1.length then .lf else g.role i } :=
    ⟨si.core.nd, si.core.cons, si.core.inS, si.core.pre, hlt', si.core.rnd, si.core.rF, si.core.RHnd, si.core.RHb, si.core.iB, si.core.ng⟩
  refine forD_ind (fun xs ρ st' => ∃ (gg : UG) (fine : Bool) (lefts rem : List Nat) (d5 : Option D), xs = dHs rem ∧ ρ = [some (.hdl u), some (.int l), some dsome, some (.hdl st1.length), some (.bl fine), d5] ∧ st'[st1.length]? = some (.lst (dHs lefts)) ∧ (gg.role st1.length = .lf ∧ ∀ k, gg.role k = .lf → k = st1.length) ∧
      SI c.Units F A S t0 u base g0 st0 gg st' ∧ -l ∈ gg.trail ∧ gg.gone = g.gone + 1 ∧ gg.wl l = g.wl l ∧ gg.wr l = g.wr l ∧ (∀ k ∈ rem, k ∈ g.wr l) ∧ LI gg l (lefts ++ rem) ∧ (fine = true → WI gg l rem) ∧ (fine = false → Conf F A)) ?_ ?_ _ _ _
      ⟨{ g with gone := g.gone + 1, role := fun i => if i = st1.length then .lf else g.role i }, true, [], g.wr l, _, rfl, rfl, get_last, ⟨if_pos rfl, fun k hk => ?_⟩, ⟨sh2, fr1.app (hb sh1), core1, si.pre, si.perm, si.RH, si.snd, si.brk⟩, hlp, rfl, rfl, rfl, fun _ q => q, ⟨(li l).1, (li l).2, fun y _ => li y⟩, fun _ => nw0, fun q => by cases q⟩
  · -- the end of the pass
    rintro ρ st' ⟨gg, fine, lefts, rem, d5, hx, rfl, elf, ⟨rlf, olf⟩, si', hl', hg', hwl', hwr', hsub, li', wi', cf'⟩
    refine ⟨hinv gg st' si'.sh hwl' hwr', ?_⟩
    have hrem : rem = [] := by cases rem with | nil => rfl | cons _ _ => cases hx
    subst hrem
    rw [List.append_nil] at li'
    walk_at "s"
    obtain ⟨ws', ew', hw1', hw2', hw3'⟩ := si'.sh.hw
    refine onO_h si'.sh.hu ⟨_, rfl, ?_⟩
    walk_at "s"
    have hkl := keys_len hw2' hw3'
    refine dSet_k ew' (by simp [sizeLine]; omega) rfl ?_
    have lS : l ∈ S := by rw [← hl]; exact si.core.ng p (si.core.inS p hpt)
    have sh3 := si'.sh.newW (x := l) (j := st1.length) (ks := lefts) (.inr rlf) (hb sh1) lS elf ew' hw1' hw2' hw3'
    have tail : ∀ st3, SI c.Units F A S t0 u base g0 st0 { gg with wl := fun y => if y = l then some st1.length else gg.wl y, wr := fun y => if y = l then lefts else gg.wr y, role := fun i => if i = st1.length then .wl l else if gg.role i = .wl l then .no else gg.role i } st3 →
        (fine = true → fine = true) → True := fun _ _ _ => trivial
    have si3 : SI c.Units F A S t0 u base g0 st0 { gg with wl := fun y => if y = l then some st1.length else gg.wl y, wr := fun y => if y = l then lefts else gg.wr y, role := fun i => if i = st1.length then .wl l else if gg.role i = .wl l then .no else gg.role i } _ :=
      ⟨sh3, si'.fr.set (si'.sh.own gg.w (by rw [si'.sh.rw]; simp)).1, ⟨si'.core.nd, si'.core.cons, si'.core.inS, si'.core.pre, si'.core.gl, si'.core.rnd, si'.core.rF, si'.core.RHnd, si'.core.RHb, si'.core.iB, si'.core.ng⟩, si'.pre, si'.perm, si'.RH, si'.snd, si'.brk⟩
    have li3 : Listed { gg with wl := fun y => if y = l then some st1.length else gg.wl y, wr := fun y => if y = l then lefts else gg.wr y, role := fun i => if i = st1.length then .wl l else if gg.role i = .wl l then .no else gg.role i } := by
      intro y
      show (if y = l then lefts else gg.wr y).Nodup ∧ ∀ h, h ∈ (if y = l then lefts else gg.wr y) ↔ _
      by_cases e : y = l
      · subst e; rw [if_pos rfl]; exact ⟨li'.1, li'.2.1⟩
      · rw [if_neg e]; exact li'.2.2 y e
    have nl3 : ∀ k, (if k = st1.length then Role.wl l else if gg.role k = .wl l then .no else gg.role k) ≠ .lf := by
      intro k q
      split at q
      · cases q
      · split at q
        · cases q
        · rename_i z _; exact z (olf k q)
    walk_at "s"
    cases fine with
    | false =>
      walk_at "s"
      exact k false _ _ si3.sh si3.fr si3.core li3 si3.pre si3.perm si3.RH si3.snd (fun q => by cases q) (fun _ => cf' rfl) si3.brk nl3
    | true =>
      walk_at "s"
      refine ⟨_, ?_, _, _, _, _, _, _, rfl, si3, li3, fun h hh a b hpr ht => ?_, nl3, rfl⟩
      · show S.length - gg.gone < S.length - g.gone
        omega
      · rcases wi' rfl h hh a b hpr ht with z | ⟨_, z⟩
        · exact z
        · cases z
  · rintro x xs ρ st' K ⟨gg, fine, lefts, rem, d5, hx, rfl, elf, ⟨rlf, olf⟩, si', hl', hg', hwl', hwr', hsub, li', wi', cf'⟩ hK
    refine ⟨hinv gg st' si'.sh hwl' hwr', ?_⟩
    cases rem with
    | nil => cases hx
    | cons h rem =>
    cases hx
    have hh : h ∈ gg.RH ∧ Wat (gg.row h) l := (li'.2.1 h).mp (by simp)
    obtain ⟨rn, r2, rS⟩ := si'.core.rnd h hh.1
    have hlen : ∀ h ∈ gg.RH, (gg.row h).length ≤ S.length := fun h hh => nodup_sub (si'.core.rnd h hh).1 fun y hy => ((si'.core.rnd h hh).2.2 y hy).1
    have nodS : ∀ ls : List Nat, ls.Nodup → (∀ k ∈ ls, k ∈ gg.RH) → ls.length < 1000000 := by
      intro ls hn hs
      exact Nat.lt_of_le_of_lt (nodup_subN hn hs) si'.core.RHb
    have hwrl : ∀ y, (gg.wr y).length < 1000000 := by
      intro y
      by_cases e : y = l
      · subst e
        rw [hwr']
        refine nodS _ (li y).1 fun k hk => ?_
        rw [si'.RH, ← si.RH]
        exact (((li y).2 k).mp hk).1
      · exact nodS _ (li'.2.2 y e).1 fun k hk => (((li'.2.2 y e).2 k).mp hk).1
    have hlf : lefts.length < 1000000 := by
      have := nodS _ li'.1 fun k hk => ((li'.2.1 k).mp hk).1
      simp at this; omega
    have ne1 : ∀ k, k = st1.length ∨ gg.role k ≠ .lf := fun k => by
      rcases Classical.em (gg.role k = .lf) with q | q
      · exact .inl (olf k q)
      · exact .inr q
    have keep : ∀ {g3 : UG} {st3 : Sto} (cl : Cell), Shape c.Units S st3 u base g3 → (∀ k, g3.role k = .lf → k = st1.length) → g3.role st1.length = .lf → Shape c.Units S (st3.set st1.length cl) u base g3 := by
      intro g3 st3 cl s3 o3 l3
      exact s3.keep (fun k _ hk => List.getElem?_set_ne (fun q => hk (by rw [← q]; exact l3))) (by rw [List.length_set]; exact Nat.le_refl _)
    have blf : base ≤ st1.length := hb sh1
    walk_at "s"
    cases fine with
    | false =>
      walk_at "s"
      refine ⟨isLD_h elf, ?_⟩
      walk_at "s"
      refine dApp_h elf (by simp [sizeLine]; omega) ?_
      walk_at "s"
      refine hK _ _ ⟨gg, false, lefts ++ [h], rem, _, rfl, rfl, by rw [getElem?_set_same elf]; simp [dHs], ⟨rlf, olf⟩, ⟨keep _ si'.sh olf rlf, si'.fr.set blf, si'.core, si'.pre, si'.perm, si'.RH, si'.snd, si'.brk⟩, hl', hg', hwl', hwr', (fun k hk => hsub k (by simp [hk])), by rw [List.append_assoc]; exact li', (fun q => by cases q), cf'⟩
    | true =>
      walk_at "s"
      refine ⟨onO_h si'.sh.hu trivial, ?_⟩
      walk_at "s"
      refine ⟨u, base, h, l, S, gg, rfl, si'.sh, hh.1, rn, r2, by have := hlen h hh.1; omega, fun y hy => (rS y hy).1, hh.2, si'.core.cons, hwrl, fun g' st2 a x mv sh' sp => ?_, fun g' st2 a nm sh' sp => ?_⟩
      · walk_at "s"
        have lx : g'.wl l = g.wl l := by
          rw [← hwl']
          refine mv.wl l fun q => ?_
          have := si'.sh.hwn l q
          rw [hwr'] at this
          have hm := hsub h (by simp)
          rw [this] at hm; cases hm
        refine hK _ _ ⟨g', true, lefts, rem, _, rfl, rfl, (sp.role _ rlf).2.trans elf, ⟨(sp.role _ rlf).1, fun k hk => olf k (sp.lf k hk)⟩, ⟨sh', si'.fr.trans sp.fr, si'.core.mv mv hh.1 hl', by rw [mv.trail]; exact si'.pre, fun k => ?_, mv.RH.trans si'.RH, ?_, mv.broken.trans si'.brk⟩, by rw [mv.trail]; exact hl', mv.gone.trans hg', lx, (mv.wo l (fun q => mv.xl q.symm)).trans hwr', (fun k hk => hsub k (by simp [hk])), li'.mv mv rn, fun _ => (wi' rfl).mv si'.core mv hh.1 hl', fun q => by cases q⟩
        · by_cases e : k = h
          · subst e; exact mv.perm.trans (si'.perm k)
          · rw [mv.rows k e]; exact si'.perm k
        · intro y hy; rw [mv.trail] at hy; exact si'.snd y hy
      · walk_at "s"
        have si2 : SI c.Units F A S t0 u base g0 st0 g' st2 := ⟨sh', si'.fr.trans sp.fr, si'.core.nm nm hh.1, by rw [nm.trail]; exact si'.pre, fun k => by
          by_cases e : k = h
          · subst e; exact nm.perm.trans (si'.perm k)
          · rw [nm.rows k e]; exact si'.perm k, nm.RH.trans si'.RH, fun y hy => by rw [nm.trail] at hy; exact si'.snd y hy, nm.broken.trans si'.brk⟩
        have elf2 : st2[st1.length]? = some (.lst (dHs lefts)) := (sp.role _ rlf).2.trans elf
        have rlf2 := (sp.role _ rlf).1
        have olf2 : ∀ k, g'.role k = .lf → k = st1.length := fun k hk => olf k (sp.lf k hk)
        refine ⟨isLD_h elf2, ?_⟩
        walk_at "s"
        refine dApp_h elf2 (by simp [sizeLine]; omega) ?_
        have sh3 := keep (.lst (dHs lefts ++ [.hdl h])) si2.sh olf2 rlf2
        have si3 : SI c.Units F A S t0 u base g0 st0 g' _ := ⟨sh3, si2.fr.set blf, si2.core, si2.pre, si2.perm, si2.RH, si2.snd, si2.brk⟩
        walk_at "s"
        refine ⟨onO_h sh3.hu trivial, ?_⟩
        walk_at "s"
        obtain ⟨eh, _⟩ := sh3.hrow h (by rw [nm.RH]; exact hh.1)
        have ha0 : atI (dIs (g'.row h)) 0 = some (.int a) := by
          obtain ⟨lt, q⟩ := List.getElem?_eq_some_iff.mp nm.p0
          have := atI_ints lt
          rw [q] at this; exact this
        refine dIx_h eh ha0 ?_
        walk_at "s"
        have li3 : LI g' l ((lefts ++ [h]) ++ rem) := by rw [List.append_assoc]; exact li'.nm nm
        have pa : a ∈ gg.row h := nm.p.mem.2
        have fin : ∀ (b : Bool) (tr : List Int) (st4 : Sto), SI c.Units F A S t0 u base g0 st0 { g' with trail := tr } st4 → st4[st1.length]? = some (.lst (dHs (lefts ++ [h]))) → (∃ t, tr = g'.trail ++ t) → (b = true → a ∈ tr ∧ -a ∉ g'.trail) → (b = false → Conf F A) →
            K [some (.hdl u), some (.int l), some dsome, some (.hdl st1.length), some (.bl b), some (.hdl h)] st4 := by
          intro b tr st4 si4 e4 ht hbt hbf
          obtain ⟨t, rfl⟩ := ht
          refine hK _ _ ⟨{ g' with trail := g'.trail ++ t }, b, lefts ++ [h], rem, _, rfl, rfl, e4, ⟨rlf2, olf2⟩, si4, ?_, nm.gone.trans hg', ?_, ?_, (fun k hk => hsub k (by simp [hk])), li3, fun q => ?_, hbf⟩
          · show -l ∈ g'.trail ++ t
            rw [nm.trail]; exact List.mem_append_left _ hl'
          · show g'.wl l = _
            rw [nm.wl]; exact hwl'
          · show g'.wr l = _
            rw [nm.wr]; exact hwr'
          · have := hbt q
            exact (wi' rfl).nm si'.core nm hh.1 ⟨t, by rw [nm.trail]⟩ this.1 (by rw [← nm.trail]; exact this.2)
        have e3 : (st2.set st1.length (.lst (dHs lefts ++ [.hdl h])))[st1.length]? = some (.lst (dHs (lefts ++ [h]))) := by rw [getElem?_set_same elf2]; simp [dHs]
        have unit := si'.core.unit si'.snd nm hh.1 hl'
        refine ⟨u, base, a, S, g', rfl, sh3, si3.core.nd, si3.core.cons, si3.core.inS, (rS a pa).2.2, fun q => ?_, fun q => ?_, fun q1 q2 st4 sh4 sp4 => ?_⟩
        · walk_at "s"
          exact fin false g'.trail _ si3 e3 ⟨[], by simp⟩ (fun z => by cases z) fun _ => si'.core.clash si'.snd nm hh.1 hl' (by rw [← nm.trail]; exact q)
        · walk_at "s"
          exact fin true g'.trail _ si3 e3 ⟨[], by simp⟩ (fun _ => ⟨q, si3.core.cons a q⟩) (fun z => by cases z)
        · walk_at "s"
          refine fin true _ st4 ⟨sh4, si3.fr.trans sp4.fr, si3.core.tk q1 q2 (rS a pa).1 (rS a pa).2.2, si3.pre.trans (List.prefix_append _ _), si3.perm, si3.RH, fun y hy => ?_, si3.brk⟩ ((sp4.role _ rlf2).2.trans e3) ⟨[a], rfl⟩ (fun _ => ⟨by simp, q2⟩) (fun z => by cases z)
          rcases List.mem_append.mp hy with hy | hy
          · exact si3.snd y hy
          · simp at hy; subst hy; exact unit
  · have q : (if k = st1.length then Role.lf else g.role k) = .lf := hk
    by_cases e : k = st1.length
    · exact e
    · rw [if_neg e] at q; exact absurd q (nl k)

theorem valD_drop {kvs : List (Key × D)} {k k' : Key} (h : k ≠ k') : valD (dropD kvs k) k' = valD kvs k' := by
  unfold valD dropD
  congr 1
  induction kvs with
  | nil => rfl
  | cons kv kvs ih =>
    by_cases a : kv.1 = k
    · have b : ¬ kv.1 = k' := fun q => h (a.symm.trans q)
      rw [List.filter_cons_of_neg (by simp [a]), ih, List.find?_cons]
      simp [b]
    · simp only [List.filter_cons, List.find?_cons]
      simp only [ne_eq, a, not_false_eq_true, decide_true, if_true, List.find?_cons]
      rw [ih]
theorem Cover.of {F : List (List Int)} {t : List Int} {g g' : UG} (h : Cover F t g) (hR : g'.RH = g.RH) (hp : ∀ h, (g'.row h).Perm (g.row h)) : Cover F t g' := by
  intro cl hc
  rcases h cl hc with q | ⟨k, hk, q⟩
  · exact .inl q
  · exact .inr ⟨k, by rw [hR]; exact hk, fun l hl => q l ((hp k).mem_iff.mp hl)⟩
theorem cut_drop {xs : List D} {n : Nat} (h : n ≤ xs.length) : cutD xs (some (n : Int)) none = xs.drop n := by
  unfold cutD
  have : HT.sIx xs.length 0 (some (n : Int)) = n := by
    have q : ¬ ((n : Int) < 0) := by omega
    simp [HT.sIx, q]; omega
  rw [this]
  show List.take (xs.length - n) _ = _
  rw [List.take_of_length_le (by simp)]
theorem cut_take {xs : List D} {n : Nat} (h : n ≤ xs.length) : cutD xs none (some (n : Int)) = xs.take n := by
  unfold cutD
  have : HT.sIx xs.length xs.length (some (n : Int)) = n := by
    have q : ¬ ((n : Int) < 0) := by omega
    simp [HT.sIx, q]; omega
  rw [this]
  show List.take (n - 0) (List.drop 0 xs) = _
  simp
/-- back to a ground trail -/
theorem Shape.undo {C : Addr} {S : List Int} {st : Sto} {u base n : Nat} {g : UG} {tr : List Int} (sh : Shape C S st u base g) :
    Shape C S (((st.set g.t (.dK (tkv tr))) ++ [Cell.lst (dIs tr)]).set u (.ins C [(0, .hdl g.w), (1, .hdl g.t), (2, .hdl st.length), (3, .int n), (4, .bl g.broken)])) u base
      { g with tr := st.length, trail := tr, gone := n, role := fun i => if i = st.length then .tr else if i = g.tr then .no else g.role i } := by
  have hn : g.role st.length = .no := by
    rcases Classical.em (g.role st.length = .no) with q | q
    · exact q
    · have := (sh.own _ q).2; omega
  have hb : base ≤ st.length := by have := sh.own u (by rw [sh.ru]; simp); omega
  have k : ∀ i, g.role i ≠ .no → g.role i ≠ .u → g.role i ≠ .t → (((st.set g.t (.dK (tkv tr))) ++ [Cell.lst (dIs tr)]).set u (.ins C [(0, .hdl g.w), (1, .hdl g.t), (2, .hdl st.length), (3, .int n), (4, .bl g.broken)]))[i]? = st[i]? := fun i h1 h2 h3 => by
    rw [List.getElem?_set_ne (role_ne (g := g) (by rw [sh.ru]; exact h2.symm)), List.getElem?_append_left (by rw [List.length_set]; exact (sh.own i h1).2), List.getElem?_set_ne (role_ne (g := g) (by rw [sh.rt]; exact h3.symm))]
  have kr : ∀ i r, g.role i = r → r ≠ .no → r ≠ .tr → (if i = st.length then Role.tr else if i = g.tr then .no else g.role i) = r := fun i r e n1 n2 => by
    rw [if_neg (fun q => n1 (by rw [← e, q, hn])), if_neg (fun q => n2 (by rw [← e, q, sh.rtr])), e]
  have hu : ((st.set g.t (.dK (tkv tr))) ++ [Cell.lst (dIs tr)])[u]? = st[u]? := by
    rw [List.getElem?_append_left (by rw [List.length_set]; exact sh.lt.1), List.getElem?_set_ne (role_ne (g := g) (by rw [sh.rt, sh.ru]; simp))]
  have hun : u ≠ st.length := Nat.ne_of_lt sh.lt.1
  obtain ⟨ws, e', hw⟩ := sh.hw
  refine ⟨getElem?_set_same (hu.trans sh.hu) _, ⟨ws, (k _ (by rw [sh.rw]; simp) (by rw [sh.rw]; simp) (by rw [sh.rw]; simp)).trans e', hw⟩, ?_, ?_, fun l i q => ?_, sh.hwn, fun i q => ?_, kr _ _ sh.ru (by simp) (by simp), kr _ _ sh.rw (by simp) (by simp), kr _ _ sh.rt (by simp) (by simp), if_pos rfl, fun i q => ?_, sh.bd⟩
  · show _ = some (Cell.dK (tkv tr))
    rw [List.getElem?_set_ne (role_ne (g := g) (by rw [sh.ru, sh.rt]; simp)), List.getElem?_append_left (by rw [List.length_set]; exact sh.lt.2.2.1), getElem?_set_same sh.ht]
  · show _ = some (Cell.lst (dIs tr))
    rw [List.getElem?_set_ne hun, List.getElem?_append_right (by rw [List.length_set]; exact Nat.le_refl _)]
    simp
  · obtain ⟨e1, e2⟩ := sh.hwl l i q
    exact ⟨(k i (by rw [e2]; simp) (by rw [e2]; simp) (by rw [e2]; simp)).trans e1, kr _ _ e2 (by simp) (by simp)⟩
  · obtain ⟨e1, e2⟩ := sh.hrow i q
    exact ⟨(k i (by rw [e2]; simp) (by rw [e2]; simp) (by rw [e2]; simp)).trans e1, kr _ _ e2 (by simp) (by simp)⟩
  · have q' : (if i = st.length then Role.tr else if i = g.tr then .no else g.role i) ≠ .no := q
    rw [List.length_set, List.length_append, List.length_set]
    by_cases c : i = st.length
    · subst c; exact ⟨hb, by simp⟩
    · rw [if_neg c] at q'
      by_cases c2 : i = g.tr
      · rw [if_pos c2] at q'; exact absurd rfl q'
      · rw [if_neg c2] at q'
        have := sh.own i q'
        simp; omega
theorem sem_follows (c : Cl) : ∀ ds st R xq, spUnits_follows c ds st R xq → wUnits_follows c (EndsOf R xq) (startD ["self", "line", "many", "fine", "literal"] ds) st := by
  rintro ds st R xq ⟨u, base, F, S, g, d, ns, rfl, hq, sh, rd, hns, hnl, k⟩
  show wUnits_follows c ⟨_, _, _, _, _⟩ [some (.hdl u), some d, none, none, none] st
  unfold wUnits_follows
  walk_at "s"
  refine onO_h sh.hu ⟨_, rfl, ?_⟩
  walk_at "s"
  cases hbr : g.broken with
  | true =>
    walk_at "s"
    refine k true g st ⟨fun _ => .inr ((rd.bad hbr).mono (fun _ q => q) (fun _ q => q.elim)), fun _ => rfl⟩ sh .refl rd rfl
  | false =>
  obtain ⟨core, li, wa, cv, hg, snd⟩ := rd.ok hbr
  walk_at "s"
  refine onO_h sh.hu ⟨_, rfl, ?_⟩
  walk_at "s"
  refine dLen_h sh.htr ?_
  have elen : (dIs g.trail).length = g.trail.length := by simp
  rw [elen]
  walk_at "s"
  have bs := hbr
  refine dIt_q hq fun inv hinv => ?_
  have hA : ∀ l, (fun l => -l ∈ ns) l ↔ -l ∈ ns := fun _ => Iff.rfl
  -- after the takes and the spread
  have post : ∀ (fine : Bool) (gg : UG) (st' : Sto), (fine = true ↔ ¬ Fol F ns) → SI c.Units F (fun l => -l ∈ ns) S g.trail u base g st gg st' → Listed gg → (∀ k, gg.role k ≠ .lf) →
      (sSeq (sFor (miSeq (mSl (mFld c.Units 2 (mVar 0)) (moSome (mVar 2)) moNone)) (gNm 4)
        (sSeq (sEx (mDPop1 (mFld c.Units 1 (mVar 0)) (mVar 4)))
        (sEx (mDPop1 (mFld c.Units 1 (mVar 0)) (mUn dNeg (mVar 4))))))
        (sSeq (sSetFld c.Units 2 (mVar 0) (mSlH (mFld c.Units 2 (mVar 0)) moNone (moSome (mVar 2))))
        (sSeq (sSetFld c.Units 3 (mVar 0) (mVar 2))
        (sRt (mNotV (mVar 3)))))) (EndsOf R xq) [some (.hdl u), some d, some (.int g.trail.length), some (.bl fine), none] st' := by
    intro fine gg st' hf si li' nl'
    obtain ⟨T, hT⟩ := si.core.pre
    walk_at "s"
    refine onO_h si.sh.hu ⟨_, rfl, ?_⟩
    walk_at "s"
    have e1 : dr st' (.hdl gg.tr) = .lst (dIs gg.trail) := dr_hdl si.sh.htr
    have hlen : g.trail.length ≤ (dIs gg.trail).length := by rw [← hT]; simp
    simp only [dSl, e1]
    rw [cut_drop hlen]
    have e2 : (dIs gg.trail).drop g.trail.length = dIs T := by
      rw [← hT, dIs, List.map_append, ← elen, List.drop_left]
    rw [e2]
    walk_at "s"
    have uT : gg.t ≠ u := role_ne (g := gg) (by rw [si.sh.rt, si.sh.ru]; simp)
    have uTr : gg.t ≠ gg.tr := role_ne (g := gg) (by rw [si.sh.rt, si.sh.rtr]; simp)
    refine forD_ind (fun xs ρ st2 => ∃ (done rest : List Int) (d4 : Option D), T = done ++ rest ∧ xs = dIs rest ∧ ρ = [some (.hdl u), some d, some (.int g.trail.length), some (.bl fine), d4] ∧ st2 = st'.set gg.t (.dK (tkv (g.trail ++ rest)))) ?_ ?_ _ _ _ ⟨[], T, _, rfl, rfl, rfl, by rw [hT, set_same si.sh.ht]⟩
    · rintro ρ st2 ⟨done, rest, d4, h1, h2, rfl, rfl⟩
      refine ⟨trivial, ?_⟩
      have : rest = [] := by cases rest with | nil => rfl | cons _ _ => cases h2
      subst this
      rw [List.append_nil]
      have hu2 : ∀ x, (st'.set gg.t x)[u]? = _ := fun x => (List.getElem?_set_ne uT).trans si.sh.hu
      walk_at "s"
      refine onO_h (hu2 _) ⟨_, rfl, ?_⟩
      walk_at "s"
      have e3 : ∀ x, dr (st'.set gg.t x) (.hdl gg.tr) = .lst (dIs gg.trail) := fun x => dr_hdl ((List.getElem?_set_ne uTr).trans si.sh.htr)
      simp only [dSlH, e3]
      rw [cut_take hlen]
      have e4 : (dIs gg.trail).take g.trail.length = dIs g.trail := by
        rw [← hT, dIs, List.map_append, ← elen, List.take_left]
      rw [e4]
      walk_at "s"
      refine onO_h (get_app (hu2 _)) ⟨by simp, ?_⟩
      walk_at "s"
      refine onO_h (getElem?_set_same (get_app (hu2 _)) _) ⟨by simp, ?_⟩
      walk_at "s"
      rw [List.set_set, List.length_set]
      have sh3 := si.sh.undo (n := g.trail.length) (tr := g.trail)
      refine k (!fine) _ _ ?_ sh3 ?_ ⟨core.cons, fun _ => ⟨⟨core.nd, core.cons, core.inS, List.prefix_refl _, Nat.le_refl _, si.core.rnd, si.core.rF, si.core.RHnd, si.core.RHb, si.core.iB, core.ng⟩, li', fun h hh a b hp ht => si.core.iB h hh a b hp (List.mem_of_mem_take ht), cv.of si.RH si.perm, rfl, snd⟩, fun q => ?_, fun i q => ?_⟩ (by rw [← si.RH])
      · cases fine with
        | true => simp at hf ⊢; exact hf
        | false => simp at hf ⊢; exact hf
      · refine Fr.set (Fr.app ?_ (si.fr.set ?_)) ?_
        · rw [List.length_set]; exact Nat.le_of_lt (Nat.lt_of_le_of_lt (si.sh.own u (by rw [si.sh.ru]; simp)).1 si.sh.lt.1)
        · exact (si.sh.own gg.t (by rw [si.sh.rt]; simp)).1
        · exact (si.sh.own u (by rw [si.sh.ru]; simp)).1
      · have : gg.broken = true := q
        rw [si.brk, hbr] at this; cases this
      · have q' : (if i = st'.length then Role.tr else if i = gg.tr then .no else gg.role i) = .lf := q
        split at q'
        · cases q'
        · split at q'
          · cases q'
          · exact nl' i q'
    · rintro x xs ρ st2 K ⟨done, rest, d4, h1, h2, rfl, rfl⟩ hK
      refine ⟨trivial, ?_⟩
      cases rest with
      | nil => cases h2
      | cons y rest =>
      cases h2
      have hu2 : ∀ x, (st'.set gg.t x)[u]? = _ := fun x => (List.getElem?_set_ne uT).trans si.sh.hu
      have sub : ∀ z ∈ g.trail ++ y :: rest, z ∈ gg.trail := fun z hz => by
        rw [← hT, h1]
        rcases List.mem_append.mp hz with q | q
        · exact List.mem_append_left _ q
        · exact List.mem_append_right _ (List.mem_append_right _ q)
      have cons2 : ∀ z ∈ g.trail ++ y :: rest, -z ∉ g.trail ++ y :: rest := fun z hz q => si.core.cons z (sub z hz) (sub _ q)
      have nd2 : (g.trail ++ y :: rest).Nodup := by
        have := si.core.nd
        rw [← hT, h1] at this
        refine List.Sublist.nodup ?_ this
        exact List.Sublist.append (List.Sublist.refl _) (List.sublist_append_right _ _)
      have nd3 := List.perm_middle.nodup_iff.mp nd2
      simp only [List.nodup_cons] at nd3
      have ymem : y ∈ g.trail ++ y :: rest := by simp
      have yn : -y ∉ g.trail ++ y :: rest := cons2 y ymem
      have yne : ¬ y = -y := fun e => yn (by rw [← e]; exact ymem)
      walk_at "s"
      refine onO_h (hu2 _) ⟨_, rfl, isKD_h (getElem?_set_same si.sh.ht _), ?_⟩
      walk_at "s"
      refine onK_h (getElem?_set_same si.sh.ht _) ⟨_, .bl true, rfl, by rw [valD_tkv _ cons2, if_pos ymem], ?_⟩
      rw [List.set_set]
      walk_at "s"
      refine onO_h (hu2 _) ⟨_, rfl, isKD_h (getElem?_set_same si.sh.ht _), ?_⟩
      walk_at "s"
      refine onK_h (getElem?_set_same si.sh.ht _) ⟨_, .bl false, rfl, ?_, ?_⟩
      · rw [valD_drop (by intro e; injection e with e; exact yne e), valD_tkv _ cons2, if_neg yn, Int.neg_neg, if_pos ymem]
      rw [List.set_set, dropD_tkv (fun z hz => ⟨fun e => nd3.1 (by rw [← e]; exact hz), fun e => ?_⟩)]
      · walk_at "s"
        exact hK _ _ ⟨done ++ [y], rest, _, by simp [h1], rfl, rfl, rfl⟩
      · subst e
        rcases List.mem_append.mp hz with q | q
        · exact yn (List.mem_append_left _ q)
        · exact yn (List.mem_append_right _ (by simp [q]))
  refine lcD_ind (fun xs acc st' => ∃ (done rest : List Int) (bs : List Bool) (tr : List Int), ns = done ++ rest ∧ xs = dIs rest ∧ acc = bs.map D.bl ∧ SI c.Units F (fun l => -l ∈ ns) S g.trail u base g st { g with trail := tr } st' ∧ bs.length = done.length ∧
      (bs.all id = true → ∀ l ∈ done, -l ∈ tr) ∧ (bs.all id = false → Fol F ns)) ?_ ?_ _ _ _ ⟨[], ns, [], g.trail, rfl, rfl, rfl, ⟨sh, .refl, core, List.prefix_refl _, fun _ => .refl _, rfl, fun l hl => (snd l hl).mono (fun _ q => q) (fun _ q => q.elim), rfl⟩, rfl, fun _ _ q => (by cases q), fun q => (by cases q)⟩
  · rintro acc st' ⟨done, rest, bs, tr, h1, h2, rfl, si, hl, ht, hf⟩
    refine ⟨hinv _ si.fr.get, ?_⟩
    have : rest = [] := by cases rest with | nil => rfl | cons _ _ => cases h2
    subst this
    rw [List.append_nil] at h1
    subst h1
    walk_at "s"
    refine dAll_l ?_
    walk_at "s"
    cases hba : bs.all id with
    | false =>
      walk_at "s"
      exact post false _ st' ⟨fun q => (by cases q), fun q => absurd (hf hba) q⟩ si li rd.nlf
    | true =>
      walk_at "s"
      refine ⟨onO_h si.sh.hu trivial, ?_⟩
      have pre := si.core.pre
      refine ⟨u, base, F, fun l => -l ∈ ns, S, g.trail, _, rfl, si.sh, si.core, li, fun h hh a b hp hat => ?_, si.snd, rd.nlf, fun b g' st2 sh' fr' core' li' pre' perm' RH' snd' hb1 hb2 brk' nl' => ?_⟩
      · show b ∈ tr
        have hat' : -a ∈ tr.take g.gone := hat
        obtain ⟨T, hT⟩ := pre
        have hT' : g.trail ++ T = tr := hT
        rw [hg, ← hT', List.take_left] at hat'
        rw [← hT']
        exact List.mem_append_left _ (wa h hh a b hp (by rw [hg, List.take_length]; exact hat'))
      · walk_at "s"
        refine post b g' st2 ⟨fun e hfo => ?_, fun hnf => ?_⟩ ⟨sh', si.fr.trans fr', core', core'.pre, perm', RH', snd', brk'⟩ li' nl'
        · obtain ⟨q1, q2⟩ := hb1 e
          obtain ⟨c1, c2⟩ := rest_closed core' q2 (cv.of RH' perm') (fun l hl => core'.inT hl) q1
          have asm : ∀ l, -l ∈ ns → l ∈ g'.trail := fun l hl => by
            have := ht hba (-l) hl
            rw [Int.neg_neg] at this
            exact pre'.subset this
          rcases hfo with ⟨l, hl1, hl2⟩ | ⟨cl, hcl, hm⟩
          · exact core'.cons l (asm l hl2) (asm (-l) (by rw [Int.neg_neg]; exact hl1))
          · exact c2 cl hcl fun m hm' => (hm m hm').closed asm c1
        · cases b with
          | true => rfl
          | false => exact absurd (.inr (hb2 rfl)) hnf
  · rintro x xs acc st' K ⟨done, rest, bs, tr, h1, h2, rfl, si, hl, ht, hf⟩ hK
    refine ⟨hinv _ si.fr.get, ?_⟩
    cases rest with
    | nil => cases h2
    | cons y rest =>
    cases h2
    have hy : y ∈ ns := by rw [h1]; simp
    obtain ⟨y1, y2, y3⟩ := hns y hy
    walk_at "s"
    refine ⟨onO_h si.sh.hu trivial, ?_⟩
    walk_at "s"
    have hsz : (bs.map D.bl).length < sizeLine := by
      have : done.length < ns.length := by rw [h1]; simp
      simp [sizeLine]; omega
    refine ⟨u, base, -y, S, { g with trail := tr }, rfl, si.sh, si.core.nd, si.core.cons, si.core.inS, by omega, fun q => ?_, fun q => ?_, fun q1 q2 st4 sh4 sp4 => ?_⟩
    · refine ⟨hsz, hK _ _ ⟨done ++ [y], rest, bs ++ [false], tr, by simp [h1], rfl, by simp, si, by simp [hl], fun z => by simp at z, fun _ => ?_⟩⟩
      refine Fol.of_clash ?_
      have q' : y ∈ tr := by rw [Int.neg_neg] at q; exact q
      exact UP.clash (l := y) (si.snd y q') (.asm (by rw [Int.neg_neg]; exact hy))
    · refine ⟨hsz, hK _ _ ⟨done ++ [y], rest, bs ++ [true], tr, by simp [h1], rfl, by simp, si, by simp [hl], fun z l hl' => ?_, fun z => hf (by simpa using z)⟩⟩
      have z' : bs.all id = true := by simpa using z
      rcases List.mem_append.mp hl' with hl' | hl'
      · exact ht z' l hl'
      · simp at hl'; subst hl'; exact q
    · refine ⟨hsz, hK _ _ ⟨done ++ [y], rest, bs ++ [true], tr ++ [-y], by simp [h1], rfl, by simp, ⟨sh4, si.fr.trans sp4.fr, si.core.tk q1 q2 y2 (by omega), si.core.pre.trans (List.prefix_append _ _), fun _ => .refl _, rfl, fun z hz => ?_, rfl⟩, by simp [hl], fun z l hl' => ?_, fun z => hf (by simpa using z)⟩⟩
      · rcases List.mem_append.mp hz with hz | hz
        · exact si.snd z hz
        · simp at hz; subst hz; exact .asm (by rw [Int.neg_neg]; exact hy)
      · have z' : bs.all id = true := by simpa using z
        rcases List.mem_append.mp hl' with hl' | hl'
        · exact List.mem_append_left _ (ht z' l hl')
        · simp at hl'; subst hl'; simp

/-! ### data and their equals -/
def pInts (ns : List Int) : PyData := .list (ns.map .int)
theorem pyDs_ints : ∀ ns : List Int, pyDs (dIs ns) = some (ns.map .int)
  | [] => rfl
  | n :: ns => by
    have ih := pyDs_ints ns
    simp only [dIs, List.map_cons, pyDs, pyD] at ih ⊢
    rw [ih]
theorem pyD_ints (ns : List Int) : pyD (.lst (dIs ns)) = some (pInts ns) := by
  simp only [pyD, pyDs_ints, pInts]; rfl
theorem lay_ints : ∀ ns : List Int, PyData.canLayAll0 (ns.map .int) = true ∧ PyData.depthAll (ns.map .int) = 0
  | [] => by simp [PyData.canLayAll0, PyData.depthAll]
  | n :: ns => by
    have ih := lay_ints ns
    simp [PyData.canLayAll0, PyData.depthAll, PyData.canLay0, PyData.depth, ih.1, ih.2]
theorem lay_pInts (ns : List Int) : (pInts ns).canLay0 = true ∧ (pInts ns).depth = 1 := by
  unfold pInts
  simp [PyData.canLay0, PyData.depth, lay_ints]
theorem shaped_ints (ns : List Int) : SeqAt.shaped (pInts ns) = true := by
  unfold SeqAt.shaped
  rw [(lay_pInts ns).1, (lay_pInts ns).2]; rfl
theorem eqv_ints : ∀ xs ys : List Int, PyData.eqvAll (xs.map .int) (ys.map .int) = decide (xs = ys)
  | [], [] => by simp [PyData.eqvAll]
  | [], y :: ys => by simp [PyData.eqvAll]
  | x :: xs, [] => by simp [PyData.eqvAll]
  | x :: xs, y :: ys => by
    simp only [List.map_cons, PyData.eqvAll, PyData.eqv, eqv_ints xs ys]
    by_cases h : x = y <;> simp [h]
theorem eqv_pInts (xs ys : List Int) : PyData.eqv (pInts xs) (pInts ys) = decide (xs = ys) := by
  unfold pInts; rw [PyData.eqv]; exact eqv_ints xs ys
theorem dEQ_ll {neg : Bool} {xs ys : List Int} {st : Sto} {R : DQ} (h : R (.bl (xorB neg (decide (xs = ys)))) st) : dEQ neg (.lst (dIs xs)) (.lst (dIs ys)) st R := by
  refine ⟨0, _, _, pyD_ints xs, pyD_ints ys, shaped_ints _, shaped_ints _, ?_⟩
  rw [eqv_pInts]; exact h
theorem res_ints {n : Nat} {st : Sto} (ns : List Int) : (dIs ns).map (res n st) = dIs ns := by
  rw [dIs, List.map_map]
  apply List.map_congr_left
  intro x _
  cases n with
  | zero => rfl
  | succ n => rfl
theorem dEQ_hl {neg : Bool} {j : Nat} {xs ys : List Int} {st : Sto} {R : DQ} (e : st[j]? = some (.lst (dIs xs))) (h : R (.bl (xorB neg (decide (xs = ys)))) st) : dEQ neg (.hdl j) (.lst (dIs ys)) st R := by
  refine ⟨1, pInts xs, pInts ys, ?_, ?_, shaped_ints _, shaped_ints _, ?_⟩
  · simp only [res, dr_hdl e]
    show pyD (.lst ((dIs xs).map (res 0 st))) = _
    rw [res_ints]; exact pyD_ints xs
  · show pyD (.lst ((dIs ys).map (res 0 st))) = _
    rw [res_ints]; exact pyD_ints ys
  · rw [eqv_pInts]; exact h
theorem any_ints (r : List Int) (l : Int) : ((dIs r).any fun y => eqFD y (.int l)) = decide (l ∈ r) := by
  induction r with
  | nil => rfl
  | cons x r ih =>
    simp only [dIs, List.map_cons, List.any_cons] at ih ⊢
    rw [ih]
    by_cases h : x = l
    · subst h; simp [eqFD, fv, eqV]
    · have : ¬ l = x := fun q => h q.symm
      simp [eqFD, fv, eqV, h, this]
theorem flat_ints (r : List Int) : (dIs r).all flatD = true := by
  rw [List.all_eq_true]
  intro x hx
  obtain ⟨i, _, rfl⟩ := List.mem_map.mp hx
  rfl
theorem dIN_h {neg : Bool} {j : Nat} {r : List Int} {l : Int} {st : Sto} {R : DQ} (e : st[j]? = some (.lst (dIs r))) (h : R (.bl (if neg then !decide (l ∈ r) else decide (l ∈ r))) st) : dIN neg (.int l) (.hdl j) st R := by
  simp only [dIN, dr_hdl e]
  refine ⟨rfl, flat_ints r, ?_⟩
  rw [any_ints]; exact h
theorem set_last {α : Type} {l : List α} {a b : α} : (l ++ [a]).set l.length b = l ++ [b] := by
  rw [List.set_append]; simp
theorem Shape.newRow {C : Addr} {S : List Int} {st : Sto} {u base : Nat} {g : UG} {r : List Int} (sh : Shape C S st u base g) :
    Shape C S (st ++ [.lst (dIs r)]) u base { g with role := (fun i => if i = st.length then .row else g.role i), row := (fun i => if i = st.length then r else g.row i), RH := g.RH ++ [st.length] } := by
  have hn : g.role st.length = .no := by
    rcases Classical.em (g.role st.length = .no) with q | q
    · exact q
    · have := (sh.own _ q).2; omega
  have hb : base ≤ st.length := by have := sh.own u (by rw [sh.ru]; simp); omega
  have s2 := sh.app (cs := [.lst (dIs r)])
  have k : ∀ i r, g.role i = r → r ≠ .no → (if i = st.length then Role.row else g.role i) = r := fun i r e n => by
    rw [if_neg (fun q => n (by rw [← e, q, hn])), e]
  refine ⟨s2.hu, s2.hw, s2.ht, s2.htr, fun l j q => ⟨(s2.hwl l j q).1, k _ _ (s2.hwl l j q).2 (by simp)⟩, s2.hwn, fun i q => ?_, k _ _ s2.ru (by simp), k _ _ s2.rw (by simp), k _ _ s2.rt (by simp), k _ _ s2.rtr (by simp), fun i q => ?_, s2.bd⟩
  · have q' : i ∈ g.RH ++ [st.length] := q
    show _ = some (Cell.lst (dIs (if i = st.length then r else g.row i))) ∧ _
    rcases List.mem_append.mp q' with q' | q'
    · have := sh.hrow i q'
      have ne : i ≠ st.length := fun e => by rw [e, hn] at this; cases this.2
      rw [if_neg ne]
      exact ⟨(s2.hrow i q').1, k _ _ this.2 (by simp)⟩
    · simp at q'; subst q'
      rw [if_pos rfl]
      exact ⟨get_last, if_pos rfl⟩
  · have q' : (if i = st.length then Role.row else g.role i) ≠ .no := q
    by_cases c : i = st.length
    · subst c; rw [List.length_append]; exact ⟨hb, by simp⟩
    · rw [if_neg c] at q'; exact s2.own i q'
theorem Core.more {F : List (List Int)} {S t0 cl : List Int} {g : UG} (c : Core F S t0 g) : Core (F ++ [cl]) S t0 g :=
  ⟨c.nd, c.cons, c.inS, c.pre, c.gl, c.rnd, fun h hh => let ⟨x, b1, b2⟩ := c.rF h hh; ⟨x, List.mem_append_left _ b1, b2⟩, c.RHnd, c.RHb, c.iB, c.ng⟩
theorem sem_add_clause (c : Cl) : ∀ ds st R xq, spUnits_add_clause c ds st R xq → wUnits_add_clause c (EndsOf R xq) (startD ["self", "clause", "row", "literal"] ds) st := by
  rintro ds st R xq ⟨u, base, F, S, g, d, ns, rfl, hq, sh, rd, hns, hRH, k⟩
  show wUnits_add_clause c ⟨_, _, _, _, _⟩ [some (.hdl u), some d, none, none] st
  unfold wUnits_add_clause
  walk_at "s"
  have hbd := sh.bd
  have hb : base ≤ st.length := by have := sh.own u (by rw [sh.ru]; simp); omega
  refine dIt_q (hq.fr (Nat.le_refl _) fun i hi => List.getElem?_append_left (by omega)) fun inv hinv => ?_
  have eu : ∀ r : List D, (st ++ [Cell.lst r])[u]? = _ := fun r => get_app sh.hu
  have et : ∀ r : List D, (st ++ [Cell.lst r])[g.t]? = _ := fun r => get_app sh.ht
  refine forD_ind (fun xs ρ st' => ∃ (done rest r : List Int) (d3 : Option D), ns = done ++ rest ∧ xs = dIs rest ∧ ρ = [some (.hdl u), some d, some (.hdl st.length), d3] ∧ st' = st ++ [.lst (dIs r)] ∧ r.Nodup ∧ (∀ y ∈ r, y ∈ ns ∧ -y ∉ g.trail) ∧ ∀ y ∈ done, y ∈ r ∨ -y ∈ g.trail) ?_ ?_ _ _ _ ⟨[], ns, [], _, rfl, rfl, rfl, rfl, by simp, by simp, by simp⟩
  · rintro ρ st' ⟨done, rest, r, d3, h1, h2, rfl, rfl, rn, rs, rd2⟩
    refine ⟨hinv _ fun i hi => (List.getElem?_append_left (by omega)).trans (List.getElem?_append_left (by omega)).symm, ?_⟩
    have : rest = [] := by cases rest with | nil => rfl | cons _ _ => cases h2
    subst this
    rw [List.append_nil] at h1
    subst h1
    have rl : r.length ≤ S.length := nodup_sub rn fun y hy => (hns y (rs y hy).1).1
    walk_at "s"
    refine onO_h (eu _) ⟨_, rfl, ?_⟩
    walk_at "s"
    have sh1 := sh.app (cs := [.lst (dIs r)])
    have fr1 : Fr base st (st ++ [.lst (dIs r)]) := Fr.refl.app hb
    cases hbr : g.broken with
    | true =>
      walk_at "s"
      exact k g _ sh1 fr1 ⟨rd.cons, fun q => (by rw [hbr] at q; cases q), fun q => (rd.bad q).mono (fun _ z => List.mem_append_left _ z) (fun _ z => z), rd.nlf⟩ (by omega)
    | false =>
    obtain ⟨core, li, wa, cv, hg, snd⟩ := rd.ok hbr
    have cvs : Cover F g.trail g := cv
    walk_at "s"
    refine dIt_h get_last ?_
    refine lcD_ind (fun xs acc st' => ∃ (done2 rest : List Int), r = done2 ++ rest ∧ xs = dIs rest ∧ acc = dIs (done2.filter fun y => decide (y ∈ g.trail)) ∧ st' = st ++ [.lst (dIs r)]) ?_ ?_ _ _ _ ⟨[], r, rfl, rfl, rfl, rfl⟩
    · rintro acc st' ⟨done2, rest, h3, h4, rfl, rfl⟩
      refine ⟨get_last, ?_⟩
      have : rest = [] := by cases rest with | nil => rfl | cons _ _ => cases h4
      subst this
      rw [List.append_nil] at h3
      subst h3
      walk_at "s"
      refine dEQ_ll (ys := []) ?_
      walk_at "s"
      by_cases hsat : r.filter (fun y => decide (y ∈ g.trail)) = []
      · refine ifF (by simp [hsat]) ?_
        have hno : ∀ y ∈ r, y ∉ g.trail := fun y hy q => by
          have := List.filter_eq_nil_iff.mp hsat y hy
          exact this (by simpa using q)
        walk_at "s"
        refine dEQ_hl (ys := []) get_last ?_
        walk_at "s"
        by_cases hr0 : r = []
        · subst hr0
          refine ifT (by simp) ?_
          walk_at "s"
          refine onO_h (eu _) ⟨by simp, ?_⟩
          have sh2 := sh1.fld g.gone true
          refine k _ _ sh2 (fr1.set (sh.own u (by rw [sh.ru]; simp)).1) ⟨rd.cons, fun q => (by cases q), fun _ => ⟨ns, by simp, fun m hm => ?_⟩, rd.nlf⟩ (Nat.le_succ _)
          rcases rd2 m hm with q | q
          · cases q
          · exact (snd _ q).mono (fun _ z => List.mem_append_left _ z) (fun _ z => z)
        · refine ifF (by simp [hr0]) ?_
          walk_at "s"
          refine dLen_h get_last ?_
          walk_at "s"
          by_cases hr1 : r.length = 1
          · obtain ⟨a, rfl⟩ := List.length_eq_one_iff.mp hr1
            refine ifT (by simp) ?_
            walk_at "s"
            refine ⟨onO_h (eu _) trivial, ?_⟩
            walk_at "s"
            refine dIx_h (d := .int a) get_last rfl ?_
            walk_at "s"
            obtain ⟨a1, a2⟩ := rs a (by simp)
            obtain ⟨a3, a4, a5⟩ := hns a a1
            have a6 := hno a (by simp)
            refine ⟨u, base, a, S, g, rfl, sh1, core.nd, core.cons, core.inS, a5, fun q => absurd q a2, fun q => absurd q a6, fun _ _ st2 sh2 sp2 => ?_⟩
            walk_at "s"
            refine ⟨onO_h sh2.hu trivial, ?_⟩
            have upa : UP (F ++ [ns]) (fun _ => False) a := .unit (List.mem_append_right _ (by simp)) a1 fun m hm hma => by
              rcases rd2 m hm with q | q
              · simp at q; exact absurd q hma
              · exact (snd _ q).mono (fun _ z => List.mem_append_left _ z) (fun _ z => z)
            refine ⟨u, base, F ++ [ns], fun _ => False, S, g.trail, _, rfl, sh2, (core.tk a6 a2 a3 a5).more, li, fun h hh p q hp ht => ?_, fun l hl => ?_, rd.nlf, fun b g' st3 sh' fr' core' li' pre' perm' RH' snd' hb1 hb2 brk' nl' => ?_⟩
            · have ht' : -p ∈ (g.trail ++ [a]).take g.gone := ht
              rw [List.take_append_of_le_length core.gl] at ht'
              exact List.mem_append_left _ (wa h hh p q hp ht')
            · rcases List.mem_append.mp hl with q | q
              · exact (snd _ q).mono (fun _ z => List.mem_append_left _ z) (fun _ z => z)
              · simp at q; subst q; exact upa
            · walk_at "s"
              refine onO_h sh'.hu ⟨by simp, ?_⟩
              have sh3 := sh'.fld g'.gone (!b)
              have pre2 : ∀ z ∈ g.trail, z ∈ g'.trail := fun z hz => pre'.subset (List.mem_append_left _ hz)
              refine k _ _ sh3 ((fr1.trans (sp2.fr.trans fr')).set (sh'.own u (by rw [sh'.ru]; simp)).1) ⟨core'.cons, fun q => ?_, fun q => hb2 (by simpa using q), nl'⟩ (by show g'.RH.length ≤ _; rw [RH']; exact Nat.le_succ _)
              have hbt : b = true := by simpa using q
              obtain ⟨q1, q2⟩ := hb1 hbt
              refine ⟨⟨core'.nd, core'.cons, core'.inS, List.prefix_refl _, core'.gl, core'.rnd, fun h hh => ?_, core'.RHnd, core'.RHb, fun h hh p q hp ht => q2 h hh p q hp (by rw [q1, List.take_length]; exact ht), core'.ng⟩, li', q2, fun cl hcl => ?_, q1, snd'⟩
              · obtain ⟨cl, b1, b2, b3⟩ := core'.rF h hh
                exact ⟨cl, b1, b2, fun m hm hn => pre2 _ (b3 m hm hn)⟩
              · rcases List.mem_append.mp hcl with z | z
                · rcases cv.of RH' perm' cl z with ⟨l, z1, z2⟩ | z
                  · exact .inl ⟨l, z1, pre2 l z2⟩
                  · exact .inr z
                · simp at z; subst z
                  exact .inl ⟨a, a1, pre'.subset (by simp)⟩
          · refine ifF (by simp; omega) ?_
            walk_at "s"
            have hlen2 : 2 ≤ r.length := by
              have : r.length ≠ 0 := fun e => hr0 (List.length_eq_zero_iff.mp e)
              omega
            have e1 : dr (st ++ [Cell.lst (dIs r)]) (.hdl st.length) = .lst (dIs r) := dr_hdl get_last
            obtain ⟨r0, r1, rest, rfl⟩ : ∃ r0 r1 rest, r = r0 :: r1 :: rest := by
              match r, hlen2 with
              | a :: b :: l, _ => exact ⟨a, b, l, rfl⟩
            simp only [dSl, e1]
            rw [show (2 : Int) = ((2 : Nat) : Int) from rfl, cut_take (by simp)]
            walk_at "s"
            obtain ⟨z1, z2⟩ := rs r0 (by simp)
            obtain ⟨y1, y2⟩ := rs r1 (by simp)
            have hne : r0 ≠ r1 := by
              simp only [List.nodup_cons, List.mem_cons, not_or] at rn; exact rn.1.1
            have shA := sh.newRow (r := r0 :: r1 :: rest)
            have wrb : ∀ y, (g.wr y).length < 999999 := fun y => by
              have := nodup_subN (li y).1 fun k hk => (((li y).2 k).mp hk).1
              omega
            have hnr : st.length ∉ g.RH := fun q => by
              have := (List.getElem?_eq_some_iff.mp (sh.hrow _ q).1).1
              omega
            have hbA : base ≤ (st ++ [Cell.lst (dIs (r0 :: r1 :: rest))]).length := by simp; omega
            refine ⟨trivial, ?_⟩
            walk_at "s1"
            refine setd_app c (S := S) (u := u) (base := base) (x := r0) (h := st.length) shA hbA rfl rfl (hns _ z1).1 (Nat.lt_succ_of_lt (wrb _)) (fun R1 h1 => mVar_i rfl h1) (fun g1 st1 sh1' sp1 wa1 => ?_)
            refine ⟨trivial, ?_⟩
            walk_at "s1"
            have w1 : (g1.wr r1).length < 1000000 := by rw [wa1.wo r1 (Ne.symm hne)]; exact Nat.lt_succ_of_lt (wrb _)
            refine setd_app c (S := S) (u := u) (base := base) (x := r1) (h := st.length) sh1' (by have := sh1'.own u (by rw [sh1'.ru]; simp); omega) rfl rfl (hns _ y1).1 w1 (fun R1 h1 => mVar_i rfl h1) (fun g2 st2 sh2' sp2 wa2 => ?_)
            refine ⟨trivial, ?_⟩
            have row2 : g2.row = fun i => if i = st.length then r0 :: r1 :: rest else g.row i := wa2.row.trans wa1.row
            have RH2 : g2.RH = g.RH ++ [st.length] := wa2.RH.trans wa1.RH
            have tr2 : g2.trail = g.trail := wa2.trail.trans wa1.trail
            have go2 : g2.gone = g.gone := wa2.gone.trans wa1.gone
            have br2 : g2.broken = g.broken := wa2.broken.trans wa1.broken
            have rowN : g2.row st.length = r0 :: r1 :: rest := by rw [row2]; exact if_pos rfl
            have rowO : ∀ h, h ∈ g.RH → g2.row h = g.row h := fun h hh => by rw [row2]; exact if_neg (fun e : h = st.length => hnr (e ▸ hh))
            have pr : Pair (r0 :: r1 :: rest) r0 r1 := .inl ⟨rfl, rfl⟩
            have alive : ∀ a b, Pair (r0 :: r1 :: rest) a b → -a ∉ g.trail := fun a b hp => (rs a hp.mem.1).2
            have memRH : ∀ h, h ∈ g2.RH ↔ h ∈ g.RH ∨ h = st.length := fun h => by rw [RH2]; simp
            refine k g2 st2 sh2' (fr1.trans (sp1.fr.trans sp2.fr)) ⟨by rw [tr2]; exact rd.cons, fun _ => ⟨⟨by rw [tr2]; exact core.nd, by rw [tr2]; exact core.cons, by rw [tr2]; exact core.inS, List.prefix_refl _, by rw [go2, tr2]; exact core.gl, fun h hh => ?_, fun h hh => ?_, ?_, by rw [RH2]; simp; omega, fun h hh a b hp ht => ?_, core.ng⟩, fun y => ?_, fun h hh a b hp ht => ?_, fun cl hcl => ?_, by rw [go2, tr2]; exact hg, fun l hl => ?_⟩, fun q => (by rw [br2, hbr] at q; cases q), fun i q => ?_⟩ (by rw [RH2]; simp)
            · rcases (memRH h).mp hh with hh | rfl
              · rw [rowO h hh]; exact core.rnd h hh
              · rw [rowN]; exact ⟨rn, hlen2, fun y hy => hns y (rs y hy).1⟩
            · rcases (memRH h).mp hh with hh | rfl
              · rw [rowO h hh, tr2]; exact core.more.rF h hh
              · rw [rowN, tr2]
                exact ⟨ns, by simp, fun y hy => (rs y hy).1, fun m hm hn => (rd2 m hm).resolve_left hn⟩
            · rw [RH2, List.nodup_append]
              refine ⟨core.RHnd, by simp, fun a ha b hb2 => ?_⟩
              simp at hb2; subst hb2
              exact fun e => hnr (e ▸ ha)
            · rw [tr2] at ht ⊢
              rcases (memRH h).mp hh with hh | rfl
              · rw [rowO h hh] at hp; exact core.iB h hh a b hp ht
              · rw [rowN] at hp; exact absurd ht (alive a b hp)
            · have wrE : g2.wr y = if y = r0 ∨ y = r1 then g.wr y ++ [st.length] else g.wr y := by
                by_cases e0 : y = r0
                · subst e0
                  rw [wa2.wo y hne, wa1.wx, if_pos (.inl rfl)]
                · by_cases e1 : y = r1
                  · subst e1
                    rw [wa2.wx, wa1.wo y e0, if_pos (.inr rfl)]
                  · rw [wa2.wo y e1, wa1.wo y e0, if_neg (by simp [e0, e1])]
              obtain ⟨l1, l2⟩ := li y
              have nin : st.length ∉ g.wr y := fun q => hnr ((l2 _).mp q).1
              rw [wrE]
              refine ⟨?_, fun h => ?_⟩
              · split
                · rw [List.nodup_append]
                  refine ⟨l1, by simp, fun a ha b hb2 => ?_⟩
                  simp at hb2; subst hb2
                  exact fun e => nin (e ▸ ha)
                · exact l1
              · rw [memRH]
                by_cases eh : h = st.length
                · subst eh
                  rw [rowN, pr.wat]
                  by_cases ey : y = r0 ∨ y = r1
                  · rw [if_pos ey]; simp [ey]
                  · rw [if_neg ey]; exact ⟨fun q => absurd q nin, fun q => absurd q.2 ey⟩
                · have : h ∈ (if y = r0 ∨ y = r1 then g.wr y ++ [st.length] else g.wr y) ↔ h ∈ g.wr y := by
                    split
                    · simp [eh]
                    · exact Iff.rfl
                  rw [this, l2]
                  constructor
                  · rintro ⟨q1, q2⟩; exact ⟨.inl q1, by rw [rowO h q1]; exact q2⟩
                  · rintro ⟨q1 | q1, q2⟩
                    · exact ⟨q1, by rw [rowO h q1] at q2; exact q2⟩
                    · exact absurd q1 eh
            · rw [tr2, go2] at ht
              rw [tr2]
              rcases (memRH h).mp hh with hh | rfl
              · rw [rowO h hh] at hp; exact wa h hh a b hp ht
              · rw [rowN] at hp; exact absurd (List.mem_of_mem_take ht) (alive a b hp)
            · rw [tr2]
              rcases List.mem_append.mp hcl with z | z
              · rcases cvs cl z with q | ⟨h, hh, q⟩
                · exact .inl q
                · exact .inr ⟨h, (memRH h).mpr (.inl hh), by rw [rowO h hh]; exact q⟩
              · simp at z; subst z
                exact .inr ⟨st.length, (memRH _).mpr (.inr rfl), by rw [rowN]; exact fun y hy => (rs y hy).1⟩
            · rw [tr2] at hl
              exact (snd _ hl).mono (fun _ z => List.mem_append_left _ z) (fun _ z => z)
            · have q1 : (if i = st.length then Role.row else g.role i) = .lf := sp1.lf i (sp2.lf i q)
              split at q1
              · cases q1
              · exact rd.nlf i q1
      · refine ifT (by simp [hsat]) ?_
        walk_at "s"
        obtain ⟨y, hy⟩ := List.exists_mem_of_ne_nil _ hsat
        have hy' := List.mem_filter.mp hy
        have hyt : y ∈ g.trail := by simpa using hy'.2
        refine k g _ sh1 fr1 ⟨rd.cons, fun _ => ⟨core.more, li, wa, fun cl hcl => ?_, hg, fun l hl => (snd _ hl).mono (fun _ z => List.mem_append_left _ z) (fun _ z => z)⟩, fun q => (by rw [hbr] at q; cases q), rd.nlf⟩ (Nat.le_succ _)
        rcases List.mem_append.mp hcl with z | z
        · exact cvs cl z
        · simp at z; subst z
          exact .inl ⟨y, (rs y hy'.1).1, hyt⟩
    · rintro x xs acc st' K ⟨done2, rest, h3, h4, rfl, rfl⟩ hK
      refine ⟨get_last, ?_⟩
      cases rest with
      | nil => cases h4
      | cons y rest =>
      cases h4
      walk_at "s"
      refine onO_h (eu _) ⟨_, rfl, isKD_h (et _), ?_⟩
      walk_at "s"
      refine onK_h (et _) ⟨_, rfl, ?_⟩
      rw [valD_tkv _ rd.cons]
      have fsz : (dIs (done2.filter fun y => decide (y ∈ g.trail))).length < sizeLine := by
        have q1 := List.length_filter_le (fun y => decide (y ∈ g.trail)) done2
        have q2 : done2.length ≤ r.length := by rw [h3]; simp
        simp [sizeLine]; omega
      have nope : y ∉ g.trail → K (dIs (done2.filter fun y => decide (y ∈ g.trail))) (st ++ [.lst (dIs r)]) := fun q =>
        hK _ _ ⟨done2 ++ [y], rest, by simp [h3], rfl, by simp [List.filter_append, q], rfl⟩
      by_cases q1 : y ∈ g.trail
      · rw [if_pos q1]
        walk_at "s"
        show dIsB (.bl true) _ _ _
        walk_at "s"
        refine ⟨fsz, hK _ _ ⟨done2 ++ [y], rest, by simp [h3], rfl, by simp [List.filter_append, q1], rfl⟩⟩
      · rw [if_neg q1]
        by_cases q2 : -y ∈ g.trail
        · rw [if_pos q2]
          walk_at "s"
          show dIsB (.bl false) _ _ _
          walk_at "s"
          exact nope q1
        · rw [if_neg q2]
          walk_at "s"
          show dIsB .non _ _ _
          walk_at "s"
          exact nope q1
  · rintro x xs ρ st' K ⟨done, rest, r, d3, h1, h2, rfl, rfl, rn, rs, rd2⟩ hK
    refine ⟨hinv _ fun i hi => (List.getElem?_append_left (by omega)).trans (List.getElem?_append_left (by omega)).symm, ?_⟩
    cases rest with
    | nil => cases h2
    | cons y rest =>
    cases h2
    walk_at "s"
    have rl : r.length ≤ S.length := nodup_sub rn fun y hy => (hns y (rs y hy).1).1
    refine dIN_h get_last ?_
    walk_at "s"
    have skip : (y ∈ r ∨ -y ∈ g.trail) → K [some (.hdl u), some d, some (.hdl st.length), some (.int y)] (st ++ [.lst (dIs r)]) := fun q =>
      hK _ _ ⟨done ++ [y], rest, r, _, by simp [h1], rfl, rfl, rfl, rn, rs, fun z hz => by
        rcases List.mem_append.mp hz with hz | hz
        · exact rd2 z hz
        · simp at hz; subst hz; exact q⟩
    by_cases hr : y ∈ r
    · refine ifF (by simp [hr]) ?_
      refine ifF rfl ?_
      walk_at "s"
      exact skip (.inl hr)
    · refine ifT (by simp [hr]) ?_
      walk_at "s"
      refine onO_h (eu _) ⟨_, rfl, isKD_h (et _), ?_⟩
      walk_at "s"
      refine onK_h (et _) ⟨_, rfl, ?_⟩
      rw [valD_tkv _ rd.cons]
      have put : -y ∉ g.trail → K [some (.hdl u), some d, some (.hdl st.length), some (.int y)] (st ++ [.lst (dIs r ++ [.int y])]) := fun q =>
        hK _ _ ⟨done ++ [y], rest, r ++ [y], _, by simp [h1], rfl, rfl, by simp, by
          rw [List.nodup_append]
          refine ⟨rn, by simp, fun a ha b hb2 => ?_⟩
          simp at hb2; subst hb2
          exact fun e => hr (e ▸ ha), fun z hz => by
          rcases List.mem_append.mp hz with hz | hz
          · exact rs z hz
          · simp at hz; subst hz; exact ⟨by rw [h1]; simp, q⟩, fun z hz => by
          rcases List.mem_append.mp hz with hz | hz
          · rcases rd2 z hz with q | q
            · exact .inl (List.mem_append_left _ q)
            · exact .inr q
          · simp at hz; subst hz; exact .inl (by simp)⟩
      by_cases q1 : y ∈ g.trail
      · have q := rd.cons y q1
        rw [if_pos q1]
        walk_at "s"
        show dNotB (.bl true) _ _ _
        walk_at "s"
        refine ⟨isLD_h get_last, ?_⟩
        walk_at "s"
        refine dApp_h get_last (by simp [sizeLine]; omega) ?_
        rw [set_last]
        walk_at "s"
        exact put q
      · rw [if_neg q1]
        by_cases q2 : -y ∈ g.trail
        · rw [if_pos q2]
          walk_at "s"
          show dNotB (.bl false) _ _ _
          walk_at "s"
          exact skip (.inr q2)
        · rw [if_neg q2]
          walk_at "s"
          show dNotB .non _ _ _
          walk_at "s"
          refine ⟨isLD_h get_last, ?_⟩
          walk_at "s"
          refine dApp_h get_last (by simp [sizeLine]; omega) ?_
          rw [set_last]
          walk_at "s"
          exact put q2

theorem sem_init (c : Cl) : ∀ ds st R xq, spUnits_DinitD c ds st R xq → wUnits_DinitD c (EndsOf R xq) (startD ["self", "clauses", "clause"] ds) st := by
  rintro ds st R xq ⟨u, S, d, rows, rfl, ⟨xs, hq, hqr⟩, hu, hlen, hrows, hS, hrl, k⟩
  show wUnits_DinitD c ⟨_, _, _, _, _⟩ [some (.hdl u), some d, none] st
  unfold wUnits_DinitD
  have hul : u < st.length := by omega
  have hs : ∀ (a : Sto) (x y : Cell), u < a.length → (a ++ [x]).set u y = a.set u y ++ [x] := fun a x y h => by rw [List.set_append, if_pos h]
  walk_at "s"
  refine onO_h (get_app hu) ⟨by simp, ?_⟩
  rw [hs _ _ _ hul]
  walk_at "s"
  have g1 : ∀ x, (st.set u x)[u]? = some x := fun x => List.getElem?_set_self hul
  refine onO_h (get_app (get_app (g1 _))) ⟨by simp, ?_⟩
  rw [hs _ _ _ (by simp; omega), hs _ _ _ (by simp; omega), List.set_set]
  walk_at "s"
  refine onO_h (get_app (get_app (get_app (g1 _)))) ⟨by simp, ?_⟩
  rw [hs _ _ _ (by simp; omega), hs _ _ _ (by simp; omega), hs _ _ _ (by simp; omega), List.set_set]
  walk_at "s"
  refine onO_h (get_app (get_app (get_app (g1 _)))) ⟨by simp, ?_⟩
  rw [hs _ _ _ (by simp; omega), hs _ _ _ (by simp; omega), hs _ _ _ (by simp; omega), List.set_set]
  walk_at "s"
  refine onO_h (get_app (get_app (get_app (g1 _)))) ⟨by simp, ?_⟩
  rw [hs _ _ _ (by simp; omega), hs _ _ _ (by simp; omega), hs _ _ _ (by simp; omega), List.set_set]
  walk_at "s"
  have sh0 : Shape c.Units S (st.set u (.ins c.Units [(0, .hdl st.length), (1, .hdl (st.length + 1)), (2, .hdl (st.length + 1 + 1)), (3, .int ((0 : Nat) : Int)), (4, .bl false)]) ++ [.dK []] ++ [.dK []] ++ [.lst []]) u u
      { w := st.length, t := st.length + 1, tr := st.length + 1 + 1, role := fun i => if i = u then .u else if i = st.length then .w else if i = st.length + 1 then .t else if i = st.length + 1 + 1 then .tr else .no, wl := fun _ => none, wr := fun _ => [], row := fun _ => [], RH := [], trail := [], gone := 0, broken := false } := by
    have n1 : st.length ≠ u := by omega
    have n2 : st.length + 1 ≠ u := by omega
    have n3 : st.length + 1 + 1 ≠ u := by omega
    refine ⟨get_app (get_app (get_app (g1 _))), ⟨[], ?_, fun l => rfl, by simp, by simp⟩, ?_, ?_, fun l j q => (by cases q), fun _ _ => rfl, fun h hh => (by cases hh), by simp, by simp [n1], by simp [n2], by simp [n3]; omega, fun i q => ?_, hS.1⟩
    · have := get_last (l := st.set u (.ins c.Units [(0, .hdl st.length), (1, .hdl (st.length + 1)), (2, .hdl (st.length + 1 + 1)), (3, .int ((0 : Nat) : Int)), (4, .bl false)])) (a := Cell.dK [])
      rw [List.length_set] at this
      exact get_app (get_app this)
    · have := get_last (l := st.set u (.ins c.Units [(0, .hdl st.length), (1, .hdl (st.length + 1)), (2, .hdl (st.length + 1 + 1)), (3, .int ((0 : Nat) : Int)), (4, .bl false)]) ++ [.dK []]) (a := Cell.dK [])
      rw [List.length_append, List.length_set] at this
      exact get_app this
    · have := get_last (l := st.set u (.ins c.Units [(0, .hdl st.length), (1, .hdl (st.length + 1)), (2, .hdl (st.length + 1 + 1)), (3, .int ((0 : Nat) : Int)), (4, .bl false)]) ++ [.dK []] ++ [.dK []]) (a := Cell.lst [])
      rw [List.length_append, List.length_append, List.length_set] at this
      exact this
    · have q' : (if i = u then Role.u else if i = st.length then .w else if i = st.length + 1 then .t else if i = st.length + 1 + 1 then .tr else .no) ≠ .no := q
      simp only [List.length_append, List.length_set, List.length_cons, List.length_nil]
      by_cases a : i = u
      · omega
      · by_cases b : i = st.length
        · omega
        · by_cases c : i = st.length + 1
          · omega
          · by_cases d : i = st.length + 1 + 1
            · omega
            · simp [a, b, c, d] at q'
  have fr0 : Fr u st (st.set u (.ins c.Units [(0, .hdl st.length), (1, .hdl (st.length + 1)), (2, .hdl (st.length + 1 + 1)), (3, .int ((0 : Nat) : Int)), (4, .bl false)]) ++ [.dK []] ++ [.dK []] ++ [.lst []]) := by
    refine Fr.app ?_ (Fr.app ?_ (Fr.app ?_ (Fr.refl.set (Nat.le_refl _)))) <;> simp <;> omega
  have rd0 : Ready [] S { w := st.length, t := st.length + 1, tr := st.length + 1 + 1, role := fun i => if i = u then .u else if i = st.length then .w else if i = st.length + 1 then .t else if i = st.length + 1 + 1 then .tr else .no, wl := fun _ => none, wr := fun _ => [], row := fun _ => [], RH := [], trail := [], gone := 0, broken := false } := by
    refine ⟨by simp, fun _ => ⟨⟨by simp, by simp, by simp, List.prefix_refl _, Nat.le_refl _, by simp, by simp, by simp, by simp, by simp, hS.2⟩, fun l => ⟨by simp, by simp⟩, fun h hh => (by cases hh), fun cl hc => (by cases hc), rfl, fun l hl => (by cases hl)⟩, fun q => (by cases q), fun i q => ?_⟩
    have q' : (if i = u then Role.u else if i = st.length then .w else if i = st.length + 1 then .t else if i = st.length + 1 + 1 then .tr else .no) = .lf := q
    repeat (first | (split at q'; (cases q')) | cases q')
  have e0 : (List.length (st.set u (.ins c.Units [(0, .hdl st.length), (1, .hdl (st.length + 1)), (2, .hdl (st.length + 1 + 1)), (3, .int ((0 : Nat) : Int)), (4, .bl false)]) ++ [.dK []] ++ [.dK []])) = st.length + 1 + 1 := by simp
  have hfr : ∀ k, k < u → (st.set u (.ins c.Units [(0, .hdl st.length), (1, .hdl (st.length + 1)), (2, .hdl (st.length + 1 + 1)), (3, .int ((0 : Nat) : Int)), (4, .bl false)]) ++ [Cell.dK []] ++ [Cell.dK []] ++ [Cell.lst []])[k]? = st[k]? := fun k hk => fr0.get k hk
  refine dIt_q (hq.fr (Nat.le_refl _) (by simpa using hfr)) fun inv hinv => ?_
  refine forD_ind (fun ys ρ st' => ∃ (F rest : List (List Int)) (g : UG) (d2 : Option D), rows = F ++ rest ∧ QRows u st ys rest ∧ ρ = [some (.hdl u), some d, d2] ∧ Shape c.Units S st' u u g ∧ Fr u st st' ∧ Ready F S g ∧ g.RH.length ≤ F.length) ?_ ?_ _ _ _ ⟨[], rows, _, _, rfl, hqr, rfl, ?_, ?_, rd0, Nat.le_refl _⟩
  · rintro ρ st' ⟨F, rest, g, d2, h1, h2, rfl, sh, fr, rd, hRH⟩
    refine ⟨hinv _ fun i hi => (fr.get i hi).trans (by simpa using (hfr i hi).symm), ?_⟩
    have : rest = [] := by cases rest with | nil => rfl | cons _ _ => exact h2.elim
    subst this
    rw [List.append_nil] at h1
    subst h1
    exact k g st' sh fr rd hRH
  · rintro x ys ρ st' K ⟨F, rest, g, d2, h1, h2, rfl, sh, fr, rd, hRH⟩ hK
    refine ⟨hinv _ fun i hi => (fr.get i hi).trans (by simpa using (hfr i hi).symm), ?_⟩
    cases rest with
    | nil => exact h2.elim
    | cons r rest =>
    obtain ⟨h2, h3⟩ := h2
    walk_at "s"
    refine ⟨onO_h sh.hu trivial, ?_⟩
    walk_at "s"
    refine ⟨u, u, F, S, g, x, r, rfl, h2.fr (Nat.le_refl _) fr.get, sh, rd, hrows r (by rw [h1]; simp), by rw [h1] at hrl; simp at hrl; omega, fun g' st2 sh' fr' rd' hR' => ?_⟩
    walk_at "s"
    exact hK _ _ ⟨F ++ [r], rest, g', _, by simp [h1], h3, rfl, sh', fr.trans fr', rd', by simp; omega⟩
  · simpa using sh0
  · simpa using fr0

def tk (ts : List Int) : List (Key × D) := ts.map fun l => (.inl l, .bl true)
theorem valD_tk (ts : List Int) (l : Int) : valD (tk ts) (.inl l) = if l ∈ ts then some (.bl true) else none := by
  induction ts with
  | nil => rfl
  | cons x ts ih =>
    unfold valD tk at ih ⊢
    simp only [List.map_cons, List.find?_cons]
    by_cases h : x = l
    · subst h; simp
    · have h1 : ¬ (Sum.inl x : Key) = .inl l := fun e => h (by injection e)
      have h2 : ¬ l = x := fun e => h e.symm
      simp only [h1, decide_false, ih, List.mem_cons, h2, false_or]
theorem putD_tk (ts : List Int) (l : Int) : putD (tk ts) (.inl l) (.bl true) = if l ∈ ts then tk ts else tk (ts ++ [l]) := by
  by_cases h : l ∈ ts
  · rw [if_pos h]
    unfold putD
    have : ((tk ts).any fun kv => decide (kv.1 = (.inl l : Key))) = true := List.any_eq_true.mpr ⟨(.inl l, .bl true), List.mem_map.mpr ⟨l, h, rfl⟩, by simp⟩
    rw [if_pos this]
    conv => rhs; rw [← List.map_id (tk ts)]
    apply List.map_congr_left
    intro kv hkv
    obtain ⟨x, _, rfl⟩ := List.mem_map.mp hkv
    split <;> rfl
  · rw [if_neg h, putD_new (by rw [valD_tk, if_neg h])]
    simp [tk]
theorem dedup_mem : ∀ (ns acc : List Int) (x : Int), x ∈ ns.foldl step_dedup acc ↔ x ∈ acc ∨ x ∈ ns
  | [], acc, x => by simp
  | n :: ns, acc, x => by
    rw [List.foldl_cons, dedup_mem ns]
    unfold step_dedup
    split
    · rename_i h
      have h' : n ∈ acc := by simpa using h
      constructor
      · rintro (q | q)
        · exact .inl q
        · exact .inr (by simp [q])
      · rintro (q | q)
        · exact .inl q
        · rcases List.mem_cons.mp q with rfl | q
          · exact .inl h'
          · exact .inr q
    · simp only [List.mem_append, List.mem_cons, List.not_mem_nil, or_false, or_assoc]
theorem dedup_nodup : ∀ (ns acc : List Int), acc.Nodup → (ns.foldl step_dedup acc).Nodup
  | [], acc, h => h
  | n :: ns, acc, h => by
    rw [List.foldl_cons]
    refine dedup_nodup ns _ ?_
    unfold step_dedup
    split
    · exact h
    · rename_i q
      rw [List.nodup_append]
      refine ⟨h, by simp, fun a ha b hb e => ?_⟩
      simp at hb; subst hb; subst e
      exact q (by simpa using ha)
theorem setLen_one {ns : List Int} (hne : ns ≠ []) : setLen ns = 1 ↔ ∀ x ∈ ns, ∀ y ∈ ns, x = y := by
  have e : firstMet (fun i => ns.getD i 0) ns.length = ns.foldl step_dedup [] := by
    unfold firstMet
    congr 1
    apply List.ext_getElem
    · simp
    · intro i h1 h2
      simp at h1
      simp [h1]
  unfold setLen
  rw [e]
  have hm := dedup_mem ns []
  have hn := dedup_nodup ns [] (by simp)
  constructor
  · intro h x hx y hy
    obtain ⟨a, ha⟩ := List.length_eq_one_iff.mp h
    have q1 := (hm x).mpr (.inr hx)
    have q2 := (hm y).mpr (.inr hy)
    rw [ha] at q1 q2
    simp at q1 q2
    rw [q1, q2]
  · intro h
    obtain ⟨z, hz⟩ := List.exists_mem_of_ne_nil _ hne
    match hq : ns.foldl step_dedup [] with
    | [] =>
      have := (hm z).mpr (.inr hz)
      rw [hq] at this; cases this
    | [a] => rfl
    | a :: b :: l =>
      have q1 : a ∈ ns := by have := (hm a).mp (by rw [hq]; simp); simpa using this
      have q2 : b ∈ ns := by have := (hm b).mp (by rw [hq]; simp); simpa using this
      have := h a q1 b q2
      subst this
      rw [hq] at hn
      simp at hn
def ClosedR (ts : List Int) (r : List Int) : Prop := (∃ l ∈ r, -l ∉ ts) ∧ ∀ l ∈ r, (∀ m ∈ r, m ≠ l → -m ∈ ts) → l ∈ ts
theorem sem_law_clash (c : Cl) : ∀ ds st R xq, sp_law_clash c ds st R xq → w_law_clash c (EndsOf R xq) (startD ["_law_clauses", "_law_truths", "_law_more", "_law_clause_here", "_law_left", "_law_literal_here"] ds) st := by
  rintro ds st R xq ⟨d, t, rows, ts, S, rfl, ⟨ds0, hq0, hqr0⟩, ht, hn, hts, hrows, hS, k⟩
  show w_law_clash c ⟨_, _, _, _, _⟩ [some d, some (.hdl t), none, none, none, none] st
  unfold w_law_clash
  walk_at "s"
  refine dDict_h ht ?_
  walk_at "s1"
  walk_at "s1"
  walk_at "s1"
  walk_at "s1"
  walk_at "s1"
  walk_at "s1"
  have htl : t < st.length := (List.getElem?_eq_some_iff.mp ht).1
  have fra : ∀ cs : List Cell, ∀ k, k < t → (st ++ cs)[k]? = st[k]? := fun cs k hk => List.getElem?_append_left (by omega)
  refine ⟨fun m ρ st' => ∃ (ts1 : List Int) (more : Bool) (d3 d4 d5 : Option D), ρ = [some d, some (.hdl st.length), some (.bl more), d3, d4, d5] ∧ st' = st ++ [.dK (tk ts1)] ∧ ts1.Nodup ∧ (∀ l ∈ ts, l ∈ ts1) ∧ (∀ l ∈ ts1, l ∈ S) ∧ (∀ l ∈ ts1, UP rows (fun l => l ∈ ts) l) ∧ (more = false → ∀ r ∈ rows, ClosedR ts1 r) ∧ m = if more then S.length - ts1.length + 1 else 0,
    ⟨_, ts, true, none, none, none, rfl, rfl, hn, fun _ q => q, hts, fun _ q => .asm q, (fun q => by cases q), rfl⟩, ?_⟩
  rintro m ρ st' ⟨ts1, more, d3, d4, d5, rfl, rfl, hn1, hs1, hS1, hU1, hc1, rfl⟩
  walk_at "s"
  have noconf : more = false → ¬ Conf rows (fun l => l ∈ ts) := by
    rintro hm ⟨cl, hcl, hall⟩
    obtain ⟨⟨l, hl, hnl⟩, _⟩ := hc1 hm cl hcl
    refine hnl ((hall l hl).closed (T := fun l => l ∈ ts1) hs1 fun cl' hcl' l' hl' hm' => ?_)
    exact (hc1 hm cl' hcl').2 l' hl' hm'
  cases more with
  | false =>
    walk_at "s"
    exact k false _ ⟨fun q => (by cases q), fun q => absurd q (noconf rfl)⟩ (fun i hi => List.getElem?_append_left hi) (by simp)
  | true =>
  walk_at "s"
  refine dIt_q (hq0.fr (Nat.le_refl _) (fra _)) fun inv hinv => ?_
  refine forD_ind (fun xs ρ st2 => ∃ (done rest : List (List Int)) (ts2 : List Int) (more : Bool) (d3 d4 d5 : Option D), rows = done ++ rest ∧ QRows t st xs rest ∧ ρ = [some d, some (.hdl st.length), some (.bl more), d3, d4, d5] ∧ st2 = st ++ [.dK (tk ts2)] ∧ ts2.Nodup ∧ (∀ l ∈ ts1, l ∈ ts2) ∧ (∀ l ∈ ts2, l ∈ S) ∧ (∀ l ∈ ts2, UP rows (fun l => l ∈ ts) l) ∧ (more = false → ∀ r ∈ done, ClosedR ts2 r) ∧ (more = false → ts2 = ts1) ∧ (more = true → ts1.length < ts2.length)) ?_ ?_ _ _ _ ⟨[], rows, ts1, false, _, _, _, rfl, hqr0, rfl, rfl, hn1, fun _ q => q, hS1, hU1, by simp, fun _ => rfl, fun q => (by cases q)⟩
  · rintro ρ st2 ⟨done, rest, ts2, more, d3, d4, d5, h1, h2, rfl, rfl, hn2, hs2, hS2, hU2, hc2, he2, hl2⟩
    refine ⟨hinv _ fun k hk => (fra _ k hk).trans (fra _ k hk).symm, ?_⟩
    have : rest = [] := by cases rest with | nil => rfl | cons _ _ => exact h2.elim
    subst this
    rw [List.append_nil] at h1
    subst h1
    have hlen2 : ts2.length ≤ S.length := nodup_sub hn2 hS2
    refine ⟨_, ?_, ts2, more, _, _, _, rfl, rfl, hn2, fun l hl => hs2 l (hs1 l hl), hS2, hU2, hc2, rfl⟩
    cases more with
    | false => simp
    | true => have := hl2 rfl; simp; omega
  · rintro x xs ρ st2 K ⟨done, rest, ts2, more, d3, d4, d5, h1, h2, rfl, rfl, hn2, hs2, hS2, hU2, hc2, he2, hl2⟩ hK
    refine ⟨hinv _ fun k hk => (fra _ k hk).trans (fra _ k hk).symm, ?_⟩
    cases rest with
    | nil => exact h2.elim
    | cons r rest =>
    obtain ⟨hxr, h2⟩ := h2
    have hr : r ∈ rows := by rw [h1]; simp
    obtain ⟨hr1, hr2⟩ := hrows r hr
    have hlen2 : ts2.length ≤ S.length := nodup_sub hn2 hS2
    have et : (st ++ [Cell.dK (tk ts2)])[st.length]? = some (.dK (tk ts2)) := get_last
    walk_at "s"
    refine dIt_q (hxr.fr (Nat.le_refl _) (fra _)) fun inv2 hinv2 => ?_
    refine lcD_ind (fun xs acc st3 => ∃ (d2 rest : List Int), r = d2 ++ rest ∧ xs = dIs rest ∧ acc = dIs (d2.filter fun y => decide (-y ∉ ts2)) ∧ st3 = st ++ [.dK (tk ts2)]) ?_ ?_ _ _ _ ⟨[], r, rfl, rfl, rfl, rfl⟩
    · rintro acc st3 ⟨d2, rest2, h3, h4, rfl, rfl⟩
      refine ⟨hinv2 _ fun _ _ => rfl, ?_⟩
      have : rest2 = [] := by cases rest2 with | nil => rfl | cons _ _ => cases h4
      subst this
      rw [List.append_nil] at h3
      subst h3
      obtain ⟨left, hleft⟩ : ∃ left, r.filter (fun y => decide (-y ∉ ts2)) = left := ⟨_, rfl⟩
      have memL : ∀ y, y ∈ left ↔ y ∈ r ∧ -y ∉ ts2 := fun y => by rw [← hleft]; simp
      have lenL : left.length ≤ r.length := by rw [← hleft]; exact List.length_filter_le _ _
      rw [hleft]
      walk_at "s"
      refine dEQ_ll (ys := []) ?_
      walk_at "s"
      by_cases hl0 : left = []
      · refine ifT (by simp [hl0]) ?_
        walk_at "s"
        refine k true _ ⟨fun _ => ⟨r, hr, fun m hm => ?_⟩, fun _ => rfl⟩ (fun i hi => List.getElem?_append_left hi) (by simp)
        refine hU2 _ (Classical.byContradiction fun q => ?_)
        have := (memL m).mpr ⟨hm, q⟩
        rw [hl0] at this; cases this
      refine ifF (by simp [hl0]) ?_
      walk_at "s"
      refine ⟨left, allI_ints left, by omega, ?_⟩
      walk_at "s"
      obtain ⟨a, left', hla⟩ : ∃ a l, left = a :: l := by
        cases left with
        | nil => exact absurd rfl hl0
        | cons a l => exact ⟨a, l, rfl⟩
      have ha : a ∈ r ∧ -a ∉ ts2 := (memL a).mp (by rw [hla]; simp)
      have next : ∀ d4, (more = false → ∀ l ∈ r, (∀ m ∈ r, m ≠ l → -m ∈ ts2) → l ∈ ts2) → K [some d, some (.hdl st.length), some (.bl more), some x, d4, d5] (st ++ [.dK (tk ts2)]) := fun d4 q =>
        hK _ _ ⟨done ++ [r], rest, ts2, more, _, _, _, by simp [h1], h2, rfl, rfl, hn2, hs2, hS2, hU2, fun hm r' hr' => by
          rcases List.mem_append.mp hr' with z | z
          · exact hc2 hm r' z
          · simp at z; subst z; exact ⟨⟨a, ha.1, ha.2⟩, q hm⟩, he2, hl2⟩
      have only : ∀ l ∈ r, (∀ m ∈ r, m ≠ l → -m ∈ ts2) → ∀ x ∈ left, x = l := fun l hl hm x hx => Classical.byContradiction fun q => ((memL x).mp hx).2 (hm x ((memL x).mp hx).1 q)
      by_cases h1' : setLen left = 1
      · refine ifT (by simp [h1']) ?_
        walk_at "s"
        refine ⟨isKD_h et, ?_⟩
        walk_at "s"
        have e0 : atI (dIs left) 0 = some (.int a) := by rw [hla]; exact atI_ints (ns := a :: left') (i := 0) (by simp)
        refine dIx_l e0 ?_
        refine onK_h et ⟨_, rfl, ?_⟩
        rw [valD_tk]
        walk_at "s"
        by_cases hat : a ∈ ts2
        · rw [if_pos hat]
          refine ifF rfl ?_
          walk_at "s"
          refine next _ fun hm l hl hml => ?_
          have := only l hl hml a (by rw [hla]; simp)
          exact this ▸ hat
        · rw [if_neg hat]
          refine ifT rfl ?_
          walk_at "s"
          refine dIx_l e0 ?_
          refine dSet_k et (by simp [tk, sizeLine]; omega) rfl ?_
          rw [putD_tk, if_neg hat, set_last]
          walk_at "s"
          refine hK _ _ ⟨done ++ [r], rest, ts2 ++ [a], true, _, _, _, by simp [h1], h2, rfl, rfl, ?_, fun l hl => List.mem_append_left _ (hs2 l hl), fun l hl => ?_, fun l hl => ?_, fun q => (by cases q), fun q => (by cases q), fun _ => ?_⟩
          · rw [List.nodup_append]
            refine ⟨hn2, by simp, fun x hx y hy e => ?_⟩
            simp at hy; subst hy; subst e; exact hat hx
          · rcases List.mem_append.mp hl with z | z
            · exact hS2 l z
            · simp at z; subst z; exact hr2 l ha.1
          · rcases List.mem_append.mp hl with z | z
            · exact hU2 l z
            · simp at z; subst z
              refine .unit hr ha.1 fun m hm hma => hU2 _ (Classical.byContradiction fun q => hma ?_)
              exact (setLen_one hl0).mp h1' m ((memL m).mpr ⟨hm, q⟩) l (by rw [hla]; simp)
          · have := nodup_sub hn1 hs2
            simp; omega
      · refine ifF (by simp; omega) ?_
        refine ifF rfl ?_
        walk_at "s"
        refine next _ fun hm l hl hml => ?_
        refine absurd ((setLen_one hl0).mpr fun x hx y hy => ?_) h1'
        rw [only l hl hml x hx, only l hl hml y hy]
    · rintro x2 xs2 acc st3 K2 ⟨d2, rest2, h3, h4, rfl, rfl⟩ hK2
      refine ⟨hinv2 _ fun _ _ => rfl, ?_⟩
      cases rest2 with
      | nil => cases h4
      | cons y rest2 =>
      cases h4
      have fsz : (dIs (d2.filter fun y => decide (-y ∉ ts2))).length < sizeLine := by
        have q1 := List.length_filter_le (fun y => decide (-y ∉ ts2)) d2
        have q2 : d2.length < r.length := by rw [h3]; simp
        show _ < 16777216
        rw [dIs, List.length_map]; omega
      walk_at "s"
      refine ⟨isKD_h et, ?_⟩
      walk_at "s"
      refine onK_h et ⟨_, rfl, ?_⟩
      rw [valD_tk]
      walk_at "s"
      by_cases q : -y ∈ ts2
      · rw [if_pos q]
        refine ifF rfl ?_
        exact hK2 _ _ ⟨d2 ++ [y], rest2, by simp [h3], rfl, by simp [List.filter_append, q], rfl⟩
      · rw [if_neg q]
        refine ifT rfl ?_
        walk_at "s"
        exact ⟨fsz, hK2 _ _ ⟨d2 ++ [y], rest2, by simp [h3], rfl, by simp [List.filter_append, q], rfl⟩⟩
theorem Conf.congr {F : List (List Int)} {A A' : Int → Prop} (h : ∀ l, A l ↔ A' l) : Conf F A ↔ Conf F A' := ⟨fun q => q.mono (fun _ z => z) fun l z => (h l).mp z, fun q => q.mono (fun _ z => z) fun l z => (h l).mpr z⟩
theorem sem_law_follows (c : Cl) : ∀ ds st R xq, sp_law_follows c ds st R xq → w_law_follows c (EndsOf R xq) (startD ["_law_clauses", "_law_line", "_law_truths", "_law_literal_here"] ds) st := by
  rintro ds st R xq ⟨d, dl, rows, line, S, rfl, hd, hdl, hrows, hline, hS, k⟩
  show w_law_follows c ⟨_, _, _, _, _⟩ [some d, some dl, none, none] st
  unfold w_law_follows
  walk_at "s"
  refine dIt_q (hdl.fr (Nat.le_refl _) fun k hk => List.getElem?_append_left hk) fun inv hinv => ?_
  refine forD_ind (fun xs ρ st' => ∃ (done rest ts : List Int) (d3 : Option D), line = done ++ rest ∧ xs = dIs rest ∧ ρ = [some d, some dl, some (.hdl st.length), d3] ∧ st' = st ++ [.dK (tk ts)] ∧ ts.Nodup ∧ (∀ l, l ∈ ts ↔ -l ∈ done) ∧ ∀ l ∈ done, -l ∉ done) ?_ ?_ _ _ _ ⟨[], line, [], _, rfl, rfl, rfl, rfl, by simp, by simp, by simp⟩
  · rintro ρ st' ⟨done, rest, ts, d3, h1, h2, rfl, rfl, hn, hm, hp⟩
    refine ⟨hinv _ fun k hk => (List.getElem?_append_left hk).trans (List.getElem?_append_left hk).symm, ?_⟩
    have : rest = [] := by cases rest with | nil => rfl | cons _ _ => cases h2
    subst this
    rw [List.append_nil] at h1
    subst h1
    walk_at "s"
    refine ⟨d, st.length, rows, ts, S, rfl, hd.fr (Nat.le_refl _) fun k hk => List.getElem?_append_left hk, get_last, hn, fun l hl => ?_, fun r hr => ⟨(hrows r hr).1, fun l hl => ((hrows r hr).2 l hl).1⟩, hS, fun b st2 hb hg hl2 => ?_⟩
    · have := (hline _ ((hm l).mp hl)).2.1
      rw [Int.neg_neg] at this; exact this
    · refine k b st2 (hb.trans ((Conf.congr hm).trans ⟨fun q => .inr q, fun q => ?_⟩)) (fun i hi => ?_) ?_
      · rcases q with ⟨l, q1, q2⟩ | q
        · exact absurd q2 (hp l q1)
        · exact q
      · rw [hg i (by simp; omega), List.getElem?_append_left hi]
      · simp at hl2; omega
  · rintro x xs ρ st' K ⟨done, rest, ts, d3, h1, h2, rfl, rfl, hn, hm, hp⟩ hK
    refine ⟨hinv _ fun k hk => (List.getElem?_append_left hk).trans (List.getElem?_append_left hk).symm, ?_⟩
    cases rest with
    | nil => cases h2
    | cons y rest =>
    cases h2
    have hy : y ∈ line := by rw [h1]; simp
    have et : (st ++ [Cell.dK (tk ts)])[st.length]? = some (.dK (tk ts)) := get_last
    walk_at "s"
    refine ⟨isKD_h et, ?_⟩
    walk_at "s"
    refine onK_h et ⟨_, rfl, ?_⟩
    rw [valD_tk]
    walk_at "s"
    by_cases q : y ∈ ts
    · rw [if_pos q]
      refine ifT rfl ?_
      walk_at "s"
      refine k true _ ⟨fun _ => .inl ⟨y, hy, by rw [h1]; exact List.mem_append_left _ ((hm y).mp q)⟩, fun _ => rfl⟩ (fun i hi => List.getElem?_append_left hi) (by simp)
    · rw [if_neg q]
      refine ifF rfl ?_
      walk_at "s"
      have hsz : ts.length ≤ S.length := nodup_sub hn fun l hl => by
        have := (hline (-l) (by rw [h1]; exact List.mem_append_left _ ((hm l).mp hl))).2.1
        rw [Int.neg_neg] at this; exact this
      refine dSet_k et (by simp [tk, sizeLine]; omega) rfl ?_
      rw [putD_tk, set_last]
      have y0 := (hline y hy).2.2
      have pn : ∀ l ∈ done ++ [y], -l ∉ done ++ [y] := by
        intro l hl z
        have nq : -y ∉ done := fun z => q ((hm y).mpr z)
        rcases List.mem_append.mp hl with hl | hl
        · rcases List.mem_append.mp z with z | z
          · exact hp l hl z
          · simp at z; have : l = -y := by omega
            subst this; exact nq hl
        · simp at hl; subst hl
          rcases List.mem_append.mp z with z | z
          · exact nq z
          · simp at z; omega
      walk_at "s"
      by_cases q2 : -y ∈ ts
      · rw [if_pos q2]
        refine hK _ _ ⟨done ++ [y], rest, ts, _, by simp [h1], rfl, rfl, rfl, hn, fun l => ?_, pn⟩
        rw [hm, List.mem_append]
        constructor
        · exact fun z => .inl z
        · rintro (z | z)
          · exact z
          · simp at z
            have := (hm _).mp q2
            rw [Int.neg_neg] at this
            rw [z]; exact this
      · rw [if_neg q2]
        refine hK _ _ ⟨done ++ [y], rest, ts ++ [-y], _, by simp [h1], rfl, rfl, rfl, ?_, fun l => ?_, pn⟩
        · rw [List.nodup_append]
          refine ⟨hn, by simp, fun a ha b hb e => ?_⟩
          simp at hb; subst hb; subst e; exact q2 ha
        · simp only [List.mem_append, hm, List.mem_cons, List.not_mem_nil, or_false]
          constructor
          · rintro (z | z)
            · exact .inl z
            · exact .inr (by omega)
          · rintro (z | z)
            · exact .inl z
            · exact .inr (by omega)

theorem lcD_pure {inv : Sto → Prop} {g : Tgt} {tt : MT} {te : ME} {ρ : DEnv} {R : List D → Sto → Prop} {st : Sto} (f : D → Option D) (hinv : inv st) :
    ∀ (xs acc : List D), acc.length + xs.length ≤ sizeLine → (∀ x ∈ xs, ∀ (acc : List D) (K : List D → Sto → Prop), (match f x with | some d => acc.length < sizeLine ∧ K (acc ++ [d]) st | none => K acc st) →
      g.run x ρ fun ρ1 => tt ρ1 st (fun c st1 => if c = true then te ρ1 st1 (fun d st2 => acc.length < sizeLine ∧ K (acc ++ [d]) st2) noX else K acc st1) noX) → R (acc ++ xs.filterMap f) st → lcD inv g tt te ρ R xs acc st
  | [], acc, _, _, h => ⟨hinv, by simpa using h⟩
  | x :: xs, acc, hl, hs, h => by
    refine ⟨hinv, hs x (by simp) acc (lcD inv g tt te ρ R xs) ?_⟩
    simp only [List.length_cons] at hl
    cases hf : f x with
    | none =>
      refine lcD_pure f hinv xs acc (by omega) (fun y hy => hs y (by simp [hy])) ?_
      rw [List.filterMap_cons_none hf] at h
      exact h
    | some d =>
      refine ⟨by omega, lcD_pure f hinv xs (acc ++ [d]) (by simp; omega) (fun y hy => hs y (by simp [hy])) ?_⟩
      rw [List.filterMap_cons_some hf] at h
      simpa using h
theorem fm_filter {f : D → Option D} (p : Int → Bool) (h : ∀ l, f (.int l) = if p l then some (.int l) else none) : ∀ ls : List Int, (dIs ls).filterMap f = dIs (ls.filter p)
  | [] => rfl
  | l :: ls => by
    have ih := fm_filter p h ls
    simp only [dIs, List.map_cons] at ih ⊢
    cases hp : p l with
    | true => rw [List.filterMap_cons_some (by rw [h, hp]; rfl), ih, List.filter_cons_of_pos hp]; rfl
    | false => rw [List.filterMap_cons_none (by rw [h, hp]; rfl), ih, List.filter_cons_of_neg (by simp [hp])]
theorem fm_map {f : D → Option D} (g : Int → Int) (h : ∀ l, f (.int l) = some (.int (g l))) : ∀ ls : List Int, (dIs ls).filterMap f = dIs (ls.map g)
  | [] => rfl
  | l :: ls => by
    have ih := fm_map g h ls
    simp only [dIs, List.map_cons] at ih ⊢
    rw [List.filterMap_cons_some (h l), ih]
theorem fm_bl {f : D → Option D} (p : Int → Bool) (h : ∀ l, f (.int l) = some (.bl (p l))) : ∀ ls : List Int, (dIs ls).filterMap f = (ls.map p).map D.bl
  | [] => rfl
  | l :: ls => by
    have ih := fm_bl p h ls
    simp only [dIs, List.map_cons] at ih ⊢
    rw [List.filterMap_cons_some (h l), ih]
theorem mem_dIs {x : D} {ls : List Int} (h : x ∈ dIs ls) : ∃ l ∈ ls, x = .int l := by
  obtain ⟨l, h1, h2⟩ := List.mem_map.mp h
  exact ⟨l, h1, h2.symm⟩
theorem dIN_q {neg : Bool} {b : Nat} {st : Sto} {R : DQ} {d : D} {as : List Int} {l : Int} (h : QAt b st d (dIs as)) (k : R (.bl (if neg then !decide (l ∈ as) else decide (l ∈ as))) st) : dIN neg (.int l) d st R := by
  rcases h with rfl | rfl | ⟨j, _, rfl, e⟩
  · exact ⟨rfl, flat_ints as, by rw [any_ints]; exact k⟩
  · exact ⟨rfl, flat_ints as, by rw [any_ints]; exact k⟩
  · exact dIN_h e k
theorem PaperP.app : ∀ {F ls ms : List (List Int)}, PaperP F (ls ++ ms) ↔ PaperP F ls ∧ PaperP (F ++ ls) ms
  | F, [], ms => by simp [PaperP]
  | F, l :: ls, ms => by
    show Fol F l ∧ PaperP (F ++ [l]) (ls ++ ms) ↔ (Fol F l ∧ PaperP (F ++ [l]) ls) ∧ PaperP (F ++ l :: ls) ms
    rw [PaperP.app, List.append_assoc, and_assoc]; rfl
theorem sem_all_follow (c : Cl) : ∀ ds st R xq, spall_follow c ds st R xq → wall_follow c (EndsOf R xq) (startD ["clauses", "lines", "units", "line"] ds) st := by
  rintro ds st R xq ⟨d, dl, rows, lines, S, rfl, hd, hdl, hr, hl, hS, hrl, k⟩
  show wall_follow c ⟨_, _, _, _, _⟩ [some d, some dl, none, none] st
  unfold wall_follow
  walk_at "s"
  refine ⟨st.length, S, d, rows, rfl, hd.fr (Nat.le_refl _) fun k hk => List.getElem?_append_left hk, get_last, by simp, hr, hS, by omega, fun g st1 sh fr rd hRH => ⟨rfl, ?_⟩⟩
  walk_at "s"
  obtain ⟨xs0, hq, hqr⟩ := hdl
  have f1 : ∀ k, k < st.length → st1[k]? = st[k]? := fun k hk => (fr.get k hk).trans (List.getElem?_append_left hk)
  refine dIt_q (hq.fr (Nat.le_refl _) f1) fun inv hinv => ?_
  refine forD_ind (fun xs ρ st' => ∃ (done rest : List (List Int)) (g : UG) (d3 : Option D), lines = done ++ rest ∧ QRows st.length st xs rest ∧ ρ = [some d, some dl, some (.hdl st.length), d3] ∧ Shape c.Units S st' st.length st.length g ∧ Fr st.length st1 st' ∧ Ready (rows ++ done) S g ∧ g.RH.length ≤ rows.length + done.length ∧ PaperP rows done) ?_ ?_ _ _ _ ⟨[], lines, g, _, rfl, hqr, rfl, sh, .refl, by simpa using rd, by simpa using hRH, trivial⟩
  · rintro ρ st' ⟨done, rest, g', d3, h1, h2, rfl, sh', fr', rd', hRH', hp⟩
    refine ⟨hinv _ fr'.get, ?_⟩
    have : rest = [] := by cases rest with | nil => rfl | cons _ _ => exact h2.elim
    subst this
    rw [List.append_nil] at h1
    subst h1
    walk_at "s"
    refine k true st' ⟨fun _ => hp, fun _ => rfl⟩ (fun i hi => (fr'.get i hi).trans (f1 i hi)) ?_
    have := fr'.len; have := fr.len; simp at this; omega
  · rintro x xs ρ st' K ⟨done, rest, g', d3, h1, h2, rfl, sh', fr', rd', hRH', hp⟩ hK
    refine ⟨hinv _ fr'.get, ?_⟩
    cases rest with
    | nil => exact h2.elim
    | cons r rest =>
    obtain ⟨hx, h2⟩ := h2
    have hr' := hl r (by rw [h1]; simp)
    have hlen : rows.length + done.length + 1 < 1000000 := by rw [h1] at hrl; simp at hrl; omega
    walk_at "s"
    refine ⟨onO_h sh'.hu trivial, ?_⟩
    walk_at "s"
    refine ⟨st.length, st.length, rows ++ done, S, g', x, r, rfl, hx.fr (Nat.le_refl _) fun i hi => (fr'.get i hi).trans (f1 i hi), sh', rd', hr'.1, hr'.2, fun b g2 st2 hb sh2 fr2 rd2 hR2 => ?_⟩
    walk_at "s"
    have fr12 := fr'.trans fr2
    cases b with
    | false =>
      refine ifT rfl ?_
      walk_at "s"
      refine k false st2 ⟨fun q => (by cases q), fun q => ?_⟩ (fun i hi => (fr12.get i hi).trans (f1 i hi)) ?_
      · rw [h1, PaperP.app] at q
        exact absurd (hb.mpr q.2.1) (by simp)
      · have := fr12.len; have := fr.len; simp at this; omega
    | true =>
      refine ifF rfl ?_
      walk_at "s"
      refine ⟨onO_h sh2.hu trivial, ?_⟩
      walk_at "s"
      refine ⟨st.length, st.length, rows ++ done, S, g2, x, r, rfl, hx.fr (Nat.le_refl _) fun i hi => (fr12.get i hi).trans (f1 i hi), sh2, rd2, hr'.1, by omega, fun g3 st3 sh3 fr3 rd3 hR3 => ?_⟩
      walk_at "s"
      exact hK _ _ ⟨done ++ [r], rest, g3, _, by simp [h1], h2, rfl, sh3, fr12.trans fr3, by rw [← List.append_assoc]; exact rd3, by simp; omega, PaperP.app.mpr ⟨hp, hb.mp rfl, trivial⟩⟩
theorem snoc_of {α : Type} {l : List α} (h : l ≠ []) : ∃ ms x, l = ms ++ [x] := ⟨l.dropLast, l.getLast h, (List.dropLast_concat_getLast h).symm⟩
theorem filter_nil {p : Int → Bool} {ls : List Int} : ls.filter p = [] ↔ ∀ l ∈ ls, p l = false := by
  rw [List.filter_eq_nil_iff]; simp
theorem starL {α : Type} (ms : List α) (x : α) (mid : List α → α) : starV 2 0 (ms ++ [x]) mid = [mid ms, x] := by
  unfold starV
  simp
theorem sem_refutes (c : Cl) : ∀ ds st R xq, sprefutes c ds st R xq → wrefutes c (EndsOf R xq) (startD ["clauses", "lines", "assumed", "last", "most", "literal"] ds) st := by
  rintro ds st R xq ⟨d, dl, da, rows, lines, as, S, rfl, hd, ⟨xs, hq, hqr⟩, ha, hal, hr, hl, hS, hrl, k⟩
  show wrefutes c ⟨_, _, _, _, _⟩ [some d, some dl, some da, none, none, none] st
  unfold wrefutes
  have el := hqr.len
  walk_at "s"
  refine dLen_q hq.drs ?_
  walk_at "s"
  by_cases h0 : lines = []
  · have : xs = [] := List.length_eq_zero_iff.mp (by rw [el, h0]; rfl)
    refine ifT (by simp [this]) ?_
    walk_at "s"
    refine k false st ⟨fun q => (by cases q), fun q => ?_⟩ (fun _ _ => rfl) (Nat.le_refl _)
    obtain ⟨ms, l, e, _⟩ := q
    rw [h0] at e; simp at e
  · have hx0 : xs ≠ [] := fun e => h0 (List.length_eq_zero_iff.mp (by rw [← el, e]; rfl))
    refine ifF (by simp [hx0]) ?_
    walk_at "s"
    obtain ⟨ms, last, e⟩ := snoc_of h0
    obtain ⟨ys, y, ex⟩ := snoc_of hx0
    subst e ex
    have ely : ys.length = ms.length := by simpa using el
    have hy : QAt st.length st y (dIs last) := by
      obtain ⟨z, h1, h2⟩ := hqr.get ms.length (r := last) (by simp)
      rw [← ely] at h1
      simp at h1; subst h1; exact h2
    have hys : QRows st.length st ys ms := by
      have := hqr.take ms.length
      rw [List.take_left] at this
      rw [← ely, List.take_left] at this
      exact this
    refine gTpS_i (xs := ys ++ [y]) (by rcases hq.drs with q | q | q; exact .inl q; exact absurd q (by rcases hq with rfl | rfl | ⟨j, _, rfl, e⟩ <;> (first | (rw [dr_hdl e]; simp) | simp)); exact .inr q) (by simp) (starL ys y _) ?_
    walk_at "s"
    refine dIt_q hy fun inv hinv => ?_
    have hll : last.length < 1000000 := (hl last (by simp)).2
    refine lcD_pure (fun x => match x with | .int l => if decide (-l ∉ as) then some (.int l) else none | _ => none) (hinv _ fun _ _ => rfl) _ _ (by simp [sizeLine]; omega) (fun x hx acc K hK => ?_) ?_
    · obtain ⟨l, _, rfl⟩ := mem_dIs hx
      walk_at "s"
      refine dIN_q ha ?_
      walk_at "s"
      by_cases q : -l ∈ as
      · refine ifF (by simp [q]) ?_
        simpa [q] using hK
      · refine ifT (by simp [q]) ?_
        walk_at "s"
        simpa [q] using hK
    · rw [List.nil_append, fm_filter (fun l => decide (-l ∉ as)) fun l => rfl]
      walk_at "s"
      refine dEQ_ll (ys := []) ?_
      walk_at "s"
      by_cases h1 : last.filter (fun l => decide (-l ∉ as)) = []
      · refine ifF (by rw [decide_eq_true h1]; rfl) ?_
        have h1' := filter_nil.mp h1
        walk_at "s"
        refine dAdd_l rfl rfl (by simp [sizeLine]; rw [ely]; simp at hrl; omega) ?_
        walk_at "s"
        refine ⟨d, .lst (ys ++ [y]), rows, ms ++ [last], S, rfl, hd, ⟨_, .inl rfl, hys.snoc hy⟩, hr, hl, hS, hrl, fun b st' hb hg hln => ?_⟩
        refine k b st' (hb.trans ⟨fun q => ⟨ms, last, rfl, fun x hx => ?_, q⟩, fun q => ?_⟩) hg hln
        · have := h1' x hx; simpa using this
        · obtain ⟨_, _, _, _, q⟩ := q; exact q
      · refine ifT (by rw [decide_eq_false h1]; rfl) ?_
        walk_at "s"
        refine k false st ⟨fun q => (by cases q), fun q => ?_⟩ (fun _ _ => rfl) (Nat.le_refl _)
        obtain ⟨ms2, l2, e2, q1, q2⟩ := q
        obtain ⟨rfl, e3⟩ := List.append_inj' e2 rfl
        cases e3
        exact absurd (filter_nil.mpr fun l hl => by simpa using q1 l hl) h1

theorem allB_map (bs : List Bool) : bs.all id = true ↔ ∀ b ∈ bs, b = true := by simp [List.all_eq_true]
theorem fm_rows {f : D → Option D} (g : List Int → List Int) (h : ∀ r, f (.lst (dIs r)) = some (.lst (dIs (g r)))) : ∀ rs : List (List Int), (dRows rs).filterMap f = dRows (rs.map g)
  | [] => rfl
  | r :: rs => by
    have ih := fm_rows g h rs
    simp only [dRows, List.map_cons] at ih ⊢
    rw [List.filterMap_cons_some (h r), ih]
theorem fm_rowsF {f : D → Option D} (p : List Int → Bool) (h : ∀ r, f (.lst (dIs r)) = if p r then some (.lst (dIs r)) else none) : ∀ rs : List (List Int), (dRows rs).filterMap f = dRows (rs.filter p)
  | [] => rfl
  | r :: rs => by
    have ih := fm_rowsF p h rs
    simp only [dRows, List.map_cons] at ih ⊢
    cases hp : p r with
    | true => rw [List.filterMap_cons_some (by rw [h, hp]; rfl), ih, List.filter_cons_of_pos hp]; rfl
    | false => rw [List.filterMap_cons_none (by rw [h, hp]; rfl), ih, List.filter_cons_of_neg (by simp [hp])]
theorem mem_dRows {x : D} {rs : List (List Int)} (h : x ∈ dRows rs) : ∃ r ∈ rs, x = .lst (dIs r) := by
  obtain ⟨l, h1, h2⟩ := List.mem_map.mp h
  exact ⟨l, h1, h2.symm⟩
/-- data of a row, read where it may be read back -/
def unI : D → Option Int | .int i => some i | _ => none
def unR : D → List Int | .lst ds => ds.filterMap unI | _ => []
theorem unR_row (r : List Int) : unR (.lst (dIs r)) = r := by
  show (dIs r).filterMap unI = r
  induction r with
  | nil => rfl
  | cons x r ih => simp only [dIs, List.map_cons] at ih ⊢; rw [List.filterMap_cons_some (f := unI) (b := x) rfl, ih]
theorem dIs_app (a b : List Int) : dIs a ++ dIs b = dIs (a ++ b) := by simp [dIs]
theorem dRows_app (a b : List (List Int)) : dRows a ++ dRows b = dRows (a ++ b) := by simp [dRows]

theorem QAt.mono {b b' : Nat} {st : Sto} {d : D} {xs : List D} (h : QAt b st d xs) (l : b ≤ b') : QAt b' st d xs := h.fr l fun _ _ => rfl
theorem pyD_row {b : Nat} {st : Sto} {d : D} {r : List Int} (n : Nat) (h : QAt b st d (dIs r)) (nt : ∀ ys, d ≠ .tup ys) : pyD (res (n + 1) st d) = some (pInts r) := by
  have e : dr st d = .lst (dIs r) := by
    rcases h with rfl | rfl | ⟨j, _, rfl, e⟩
    · rfl
    · exact absurd rfl (nt _)
    · exact dr_hdl e
  simp only [res, e]
  show pyD (.lst ((dIs r).map (res n st))) = _
  rw [res_ints]
  exact pyD_ints r
def pRows (rows : List (List Int)) : PyData := .list (rows.map pInts)
theorem pyD_rows {b : Nat} {st : Sto} {d : D} {rows : List (List Int)} (n : Nat) (h : RowsL b st d rows) : pyD (res (n + 2) st d) = some (pRows rows) := by
  obtain ⟨xs, hq, _, hqr, _, nt, nt2⟩ := h
  have e : dr st d = .lst xs := by
    rcases hq with rfl | rfl | ⟨j, _, rfl, e⟩
    · rfl
    · exact absurd rfl (nt _)
    · exact dr_hdl e
  rw [res, e]
  show (pyDs (xs.map (res (n + 1) st))).map PyData.list = _
  have : ∀ (xs : List D) (rows : List (List Int)), QRows st.length st xs rows → (∀ x ∈ xs, ∀ ys, x ≠ .tup ys) → pyDs (xs.map (res (n + 1) st)) = some (rows.map pInts) := by
    intro xs
    induction xs with
    | nil => intro rows h _; cases rows with | nil => rfl | cons _ _ => exact h.elim
    | cons x xs ih =>
      intro rows h hn
      cases rows with
      | nil => exact h.elim
      | cons r rows =>
      simp only [List.map_cons, pyDs, pyD_row n h.1 (hn x (by simp)), ih rows h.2 fun y hy => hn y (by simp [hy])]
  rw [this xs rows hqr nt2]
  rfl
theorem lay_rows : ∀ rows : List (List Int), PyData.canLayAll0 (rows.map pInts) = true ∧ PyData.depthAll (rows.map pInts) ≤ 1
  | [] => by simp [PyData.canLayAll0, PyData.depthAll]
  | r :: rows => by
    have ih := lay_rows rows
    have h := lay_pInts r
    simp only [List.map_cons, PyData.canLayAll0, PyData.depthAll, h.1, h.2, ih.1, Bool.and_self, true_and]
    omega
theorem lay_pRows (rows : List (List Int)) : (pRows rows).canLay0 = true ∧ (pRows rows).depth ≤ 2 := by
  unfold pRows
  have := lay_rows rows
  simp only [PyData.canLay0, PyData.depth, this.1, true_and]
  omega
theorem shaped_rows (rows : List (List Int)) : SeqAt.shaped (pRows rows) = true := by
  unfold SeqAt.shaped
  rw [(lay_pRows rows).1, decide_eq_true (by have := (lay_pRows rows).2; omega)]; rfl
theorem eqvAll_rows : ∀ xs ys : List (List Int), PyData.eqvAll (xs.map pInts) (ys.map pInts) = decide (xs = ys)
  | [], [] => rfl
  | [], _ :: _ => rfl
  | _ :: _, [] => rfl
  | x :: xs, y :: ys => by
    simp only [List.map_cons, PyData.eqvAll, eqv_pInts, eqvAll_rows xs ys]
    by_cases h : x = y <;> simp [h]
theorem eqv_rows (xs ys : List (List Int)) : PyData.eqv (pRows xs) (pRows ys) = decide (xs = ys) := by
  unfold pRows; rw [PyData.eqv]; exact eqvAll_rows xs ys
theorem dEQ_rows0 {neg : Bool} {st : Sto} {R : DQ} {b : Nat} {d : D} {rows : List (List Int)} (h : RowsL b st d rows) (k : R (.bl (xorB neg (decide (rows = [])))) st) : dEQ neg d (.lst []) st R := by
  have g : ∃ n p q, pyD (res n st d) = some p ∧ pyD (res n st (.lst [])) = some q ∧ SeqAt.shaped p = true ∧ SeqAt.shaped q = true ∧ R (.bl (xorB neg (PyData.eqv p q))) st := ⟨2, pRows rows, pRows [], pyD_rows 0 h, rfl, shaped_rows _, shaped_rows _, by rw [eqv_rows]; exact k⟩
  unfold dEQ
  obtain ⟨xs, hq, _⟩ := h
  rcases hq with rfl | rfl | ⟨j, _, rfl, e⟩ <;> exact g
theorem dIx_q {st : Sto} {R : DQ} {d x : D} {xs : List D} {i : Int} (e : dr st d = .lst xs) (q : atI xs i = some x) (h : R x st) : dIx d (.int i) st R := by
  unfold dIx; rw [e]; exact ⟨x, q, h⟩
theorem atI_neg1 {xs : List D} {x : D} : atI (xs ++ [x]) (-1) = some x := by
  have h : ixN (xs ++ [x]).length (-1) = some xs.length := by
    unfold ixN
    rw [if_neg (by decide), if_pos (by simp; omega)]
    congr 1
    simp
    omega
  unfold atI
  rw [h]
  simp
theorem atI_neg1' {xs : List D} {x : D} : atI (xs ++ [x]) (-(1 : Int)) = some x := atI_neg1
theorem RowsL.rd {b : Nat} {st : Sto} {d : D} {rows : List (List Int)} (h : RowsL b st d rows) : Rowsd st.length st d rows := h.b.rd

theorem sem_law_is_paper (c : Cl) : ∀ ds st R xq, sp_law_is_paper c ds st R xq → w_law_is_paper c (EndsOf R xq) (startD ["_law_clauses", "_law_lines", "_law_rows", "_law_line"] ds) st := by
  rintro ds st R xq ⟨d, dl, rows, lines, S, rfl, ⟨xs0, hq, hqr⟩, ⟨ys0, hl, hlr⟩, hr, hln, hrl, hS, k⟩
  show w_law_is_paper c ⟨_, _, _, _, _⟩ [some d, some dl, none, none] st
  unfold w_law_is_paper
  walk_at "s"
  refine dListH_qq hq.drs ?_
  walk_at "s"
  have ap : ∀ cs : List Cell, ∀ i, i < st.length → (st ++ cs)[i]? = st[i]? := fun cs i hi => List.getElem?_append_left hi
  refine dIt_q (hl.fr (Nat.le_refl _) (ap _)) fun inv hinv => ?_
  refine forD_ind (fun xs ρ st' => ∃ (done rest : List (List Int)) (ys : List D) (d3 : Option D), lines = done ++ rest ∧ QRows st.length st xs rest ∧ ρ = [some d, some dl, some (.hdl st.length), d3] ∧ (∀ i, i < st.length → st'[i]? = st[i]?) ∧ st'[st.length]? = some (.lst ys) ∧ QRows st.length st ys (rows ++ done) ∧ PaperP rows done) ?_ ?_ _ _ _ ⟨[], lines, xs0, _, rfl, hlr, rfl, ap _, get_last, by simpa using hqr, trivial⟩
  · rintro ρ st' ⟨done, rest, ys, d3, h1, h2, rfl, hf, hh, hy, hp⟩
    refine ⟨hinv _ fun i hi => (hf i hi).trans (ap _ i hi).symm, ?_⟩
    have : rest = [] := by cases rest with | nil => rfl | cons _ _ => exact h2.elim
    subst this
    rw [List.append_nil] at h1
    subst h1
    walk_at "s"
    exact k true st' ⟨fun _ => hp, fun _ => rfl⟩ hf (by have := (List.getElem?_eq_some_iff.mp hh).1; omega)
  · rintro x xs ρ st' K ⟨done, rest, ys, d3, h1, h2, rfl, hf, hh, hy, hp⟩ hK
    refine ⟨hinv _ fun i hi => (hf i hi).trans (ap _ i hi).symm, ?_⟩
    cases rest with
    | nil => exact h2.elim
    | cons r rest =>
    obtain ⟨hx, h2⟩ := h2
    have lt := (List.getElem?_eq_some_iff.mp hh).1
    walk_at "s"
    refine ⟨.hdl st.length, x, rows ++ done, r, S, rfl, ⟨ys, .inr (.inr ⟨_, lt, rfl, hh⟩), QRows.fr (Nat.le_of_lt lt) hf hy⟩, (hx.fr (Nat.le_of_lt lt) hf), fun r' hr' => ?_, (hln r (by rw [h1]; simp)).2, hS, fun b st2 hb hg hle => ?_⟩
    · rcases List.mem_append.mp hr' with q | q
      · exact hr r' q
      · exact hln r' (by rw [h1]; simp [q])
    · walk_at "s"
      cases b with
      | false =>
        refine ifT rfl ?_
        walk_at "s"
        refine k false st2 ⟨fun q => (by cases q), fun q => ?_⟩ (fun i hi => (hg i (by omega)).trans (hf i hi)) (by omega)
        rw [h1, PaperP.app] at q
        exact absurd (hb.mpr q.2.1) (by simp)
      | true =>
        refine ifF rfl ?_
        walk_at "s"
        have hh2 : st2[st.length]? = some (.lst ys) := (hg _ lt).trans hh
        refine ⟨isLD_h hh2, ?_⟩
        walk_at "s"
        have yl := hy.len
        refine dApp_h hh2 (by rw [yl]; rw [h1] at hrl; simp at hrl; simp [sizeLine]; omega) ?_
        refine hK _ _ ⟨done ++ [r], rest, ys ++ [x], _, by simp [h1], h2, rfl, fun i hi => ?_, getElem?_set_same hh2 _, by rw [← List.append_assoc]; exact hy.snoc hx, PaperP.app.mpr ⟨hp, hb.mp rfl, trivial⟩⟩
        rw [List.getElem?_set_ne (by omega)]
        exact (hg i (by omega)).trans (hf i hi)
theorem sem_law_refutes (c : Cl) : ∀ ds st R xq, sp_law_refutes c ds st R xq → w_law_refutes c (EndsOf R xq) (startD ["_law_clauses", "_law_lines", "_law_some", "_law_wrong", "_law_literal_here"] ds) st := by
  rintro ds st R xq ⟨d, dl, da, rows, lines, as, S, rfl, hd, hl, ha, nt, hal, hr, hln, hrl, hS, k⟩
  show w_law_refutes c ⟨_, _, _, _, _⟩ [some d, some dl, some da, none, none] st
  unfold w_law_refutes
  obtain ⟨b, hL⟩ := nt
  walk_at "s"
  refine dEQ_rows0 hL ?_
  walk_at "s"
  by_cases h0 : lines = []
  · refine ifT (by rw [decide_eq_true h0]; rfl) ?_
    walk_at "s"
    refine k false st ⟨fun q => (by cases q), fun q => ?_⟩ (fun _ _ => rfl) (Nat.le_refl _)
    obtain ⟨ms, l, e, _⟩ := q
    rw [h0] at e; simp at e
  · refine ifF (by rw [decide_eq_false h0]; rfl) ?_
    walk_at "s"
    obtain ⟨ms, last, e⟩ := snoc_of h0
    subst e
    obtain ⟨xs, hq, hqr⟩ := hl
    have el := hqr.len
    obtain ⟨ys, y, ex⟩ := snoc_of (show xs ≠ [] from fun e => by rw [e] at el; simp at el)
    subst ex
    have ely : ys.length = ms.length := by simpa using el
    have hy : QAt st.length st y (dIs last) := by
      obtain ⟨z, h1, h2⟩ := hqr.get ms.length (r := last) (by simp)
      rw [← ely] at h1
      simp at h1; subst h1; exact h2
    have e1 : dr st dl = .lst (ys ++ [y]) := by
      rcases hq with rfl | rfl | ⟨j, _, rfl, e⟩
      · rfl
      · exact absurd rfl (hL.nt _)
      · exact dr_hdl e
    refine dIx_q e1 atI_neg1' ?_
    refine dIt_q hy fun inv hinv => ?_
    have hll : last.length ≤ 4000 := (hln last (by simp)).1
    refine lcD_pure (fun x => match x with | .int l => if decide (-l ∉ as) then some (.int l) else none | _ => none) (hinv _ fun _ _ => rfl) _ _ (by simp [sizeLine]; omega) (fun x hx acc K hK => ?_) ?_
    · obtain ⟨l, _, rfl⟩ := mem_dIs hx
      walk_at "s"
      refine dIN_q ha ?_
      walk_at "s"
      by_cases q : -l ∈ as
      · refine ifF (by simp [q]) ?_
        simpa [q] using hK
      · refine ifT (by simp [q]) ?_
        walk_at "s"
        simpa [q] using hK
    · rw [List.nil_append, fm_filter (fun l => decide (-l ∉ as)) fun l => rfl]
      walk_at "s"
      refine dEQ_ll (ys := []) ?_
      walk_at "s"
      by_cases h1 : last.filter (fun l => decide (-l ∉ as)) = []
      · refine ifT (by rw [decide_eq_true h1]; rfl) ?_
        have h1' := filter_nil.mp h1
        walk_at "s"
        refine ⟨d, dl, rows, ms ++ [last], S, rfl, hd, ⟨_, hq, hqr⟩, hr, hln, hrl, hS, fun b st' hb hg hln => ?_⟩
        refine k b st' (hb.trans ⟨fun q => ⟨ms, last, rfl, fun x hx => ?_, q⟩, fun q => ?_⟩) hg hln
        · have := h1' x hx; simpa using this
        · obtain ⟨_, _, _, _, q⟩ := q; exact q
      · refine ifF (by rw [decide_eq_false h1]; rfl) ?_
        walk_at "s"
        refine k false st ⟨fun q => (by cases q), fun q => ?_⟩ (fun _ _ => rfl) (Nat.le_refl _)
        obtain ⟨ms2, l2, e2, q1, q2⟩ := q
        obtain ⟨rfl, e3⟩ := List.append_inj' e2 rfl
        cases e3
        exact absurd (filter_nil.mpr fun l hl => by simpa using q1 l hl) h1

theorem perm_map_inv {α β : Type} {f : α → β} : ∀ {ys zs : List β}, ys.Perm zs → ∀ ls : List α, zs = ls.map f → ∃ vs : List α, ys = vs.map f ∧ vs.Perm ls := by
  intro ys zs hp
  induction hp with
  | nil =>
    intro ls e
    cases ls with
    | nil => exact ⟨[], rfl, .refl _⟩
    | cons _ _ => cases e
  | cons x h ih =>
    intro ls e
    cases ls with
    | nil => cases e
    | cons l ls => cases e; obtain ⟨vs, rfl, p⟩ := ih ls rfl; exact ⟨l :: vs, rfl, p.cons _⟩
  | swap x y l =>
    intro ls e
    match ls, e with
    | a :: a' :: ls, e => cases e; exact ⟨a' :: a :: ls, rfl, .swap _ _ _⟩
  | trans h1 h2 ih1 ih2 =>
    intro ls e
    obtain ⟨vs, e2, p⟩ := ih2 ls e
    obtain ⟨ws, e3, p'⟩ := ih1 vs e2
    exact ⟨ws, e3, p'.trans p⟩
theorem EachPerm.snoc {x z : List Int} (h : x.Perm z) : ∀ {xs zs : List (List Int)}, EachPerm xs zs → EachPerm (xs ++ [x]) (zs ++ [z])
  | [], [], _ => ⟨h, trivial⟩
  | [], _ :: _, q => q.elim
  | _ :: _, [], q => q.elim
  | _ :: _, _ :: _, q => ⟨q.1, EachPerm.snoc h q.2⟩
theorem EachPerm.len : ∀ {xs zs : List (List Int)}, EachPerm xs zs → xs.length = zs.length
  | [], [], _ => rfl
  | [], _ :: _, q => q.elim
  | _ :: _, [], q => q.elim
  | _ :: _, _ :: _, q => by simp [EachPerm.len q.2]
theorem EachPerm.mem : ∀ {xs zs : List (List Int)}, EachPerm xs zs → ∀ x ∈ xs, ∃ z ∈ zs, x.Perm z
  | [], [], _ => by simp
  | [], _ :: _, q => q.elim
  | _ :: _, [], q => q.elim
  | x :: xs, z :: zs, q => fun y hy => by
    rcases List.mem_cons.mp hy with rfl | hy
    · exact ⟨z, by simp, q.1⟩
    · obtain ⟨w, h1, h2⟩ := EachPerm.mem q.2 y hy
      exact ⟨w, by simp [h1], h2⟩
theorem EachPerm.split : ∀ {xs a b : List (List Int)}, EachPerm xs (a ++ b) → ∃ x y, xs = x ++ y ∧ EachPerm x a ∧ EachPerm y b
  | xs, [], b, h => ⟨[], xs, rfl, trivial, h⟩
  | [], _ :: _, _, h => h.elim
  | x :: xs, a :: as, b, h => by
    obtain ⟨u, v, rfl, h1, h2⟩ := EachPerm.split h.2
    exact ⟨x :: u, v, rfl, ⟨h.1, h1⟩, h2⟩
theorem allSigns_snoc (vs : List Int) (v : Int) : allSigns (vs ++ [v]) = (allSigns vs).map (fun r => r ++ [v]) ++ (allSigns vs).map (fun r => r ++ [-v]) := by
  unfold allSigns; rw [List.foldl_append]; rfl
theorem snoc_ind {α : Type} {P : List α → Prop} (h0 : P []) (h1 : ∀ l a, P l → P (l ++ [a])) (l : List α) : P l := by
  have key : ∀ n (l : List α), l.length = n → P l := by
    intro n
    induction n with
    | zero => intro l e; rw [List.length_eq_zero_iff.mp e]; exact h0
    | succ n ih =>
      intro l e
      obtain ⟨ms, x, rfl⟩ := snoc_of (show l ≠ [] from fun q => by rw [q] at e; cases e)
      exact h1 ms x (ih ms (by simpa using e))
  exact key _ l rfl
theorem allSigns_len (vs : List Int) : (allSigns vs).length = 2 ^ vs.length := by
  refine snoc_ind (P := fun vs => (allSigns vs).length = 2 ^ vs.length) rfl (fun l a h => ?_) vs
  rw [allSigns_snoc]; simp [h, Nat.pow_succ]; omega
theorem allSigns_row (vs : List Int) : ∀ r ∈ allSigns vs, okV vs r ∧ r.length = vs.length := by
  refine snoc_ind (P := fun vs => ∀ r ∈ allSigns vs, okV vs r ∧ r.length = vs.length) (fun r hr => ?_) (fun l a h r hr => ?_) vs
  · simp [allSigns] at hr; subst hr; exact ⟨fun l hl => (by cases hl), rfl⟩
  · rw [allSigns_snoc, List.mem_append, List.mem_map, List.mem_map] at hr
    rcases hr with ⟨r', h1, rfl⟩ | ⟨r', h1, rfl⟩
    · obtain ⟨h2, h3⟩ := h r' h1
      refine ⟨fun x hx => ?_, by simp [h3]⟩
      rcases List.mem_append.mp hx with q | q
      · exact (h2 x q).imp (List.mem_append_left _) (List.mem_append_left _)
      · simp at q; subst q; exact .inl (by simp)
    · obtain ⟨h2, h3⟩ := h r' h1
      refine ⟨fun x hx => ?_, by simp [h3]⟩
      rcases List.mem_append.mp hx with q | q
      · exact (h2 x q).imp (List.mem_append_left _) (List.mem_append_left _)
      · simp at q; subst q; exact .inr (by simp)
theorem fullR_len (vs gs : List Int) : (fullR vs gs).length = 2 ^ vs.length := by unfold fullR; rw [List.length_map, allSigns_len]
/-- literals of the rows -/
theorem fullR_row {ws vs gs : List Int} (hv : okV ws vs) (hg : okV ws gs) : ∀ r ∈ fullR vs gs, okV ws r ∧ r.length = vs.length + gs.length := by
  intro r hr
  obtain ⟨r', h1, rfl⟩ := List.mem_map.mp hr
  obtain ⟨h2, h3⟩ := allSigns_row vs r' h1
  refine ⟨fun x hx => ?_, by simp [h3]⟩
  rcases List.mem_append.mp hx with q | q
  · rcases h2 x q with z | z
    · exact hv x z
    · have := hv _ z; rw [Int.neg_neg] at this; exact this.symm
  · obtain ⟨g, h4, rfl⟩ := List.mem_map.mp q
    have := hg g h4
    rw [Int.neg_neg]; exact this.symm
theorem RowsPerm.ok {ws vs gs : List Int} {xs : List (List Int)} (h : RowsPerm xs (fullR vs gs)) (hv : okV ws vs) (hg : okV ws gs) : (∀ r ∈ xs, okV ws r ∧ r.length = vs.length + gs.length) ∧ xs.length = 2 ^ vs.length := by
  obtain ⟨zs, hp, he⟩ := h
  refine ⟨fun r hr => ?_, by rw [he.len, hp.length_eq, fullR_len]⟩
  obtain ⟨z, h1, h2⟩ := he.mem r hr
  obtain ⟨h3, h4⟩ := fullR_row hv hg z (hp.mem_iff.mp h1)
  exact ⟨fun x hx => h3 x (h2.mem_iff.mp hx), by rw [h2.length_eq, h4]⟩
theorem sem_law_full (c : Cl) {a0 a1 a2 a3 a4 a5 : Str} : ∀ ds st R xq, sp_law_full c ds st R xq → w_law_full c (EndsOf R xq) (startD [a0, a1, a2, a3, a4, a5] ds) st := by
  rintro ds st R xq ⟨vs, gs, rfl, hvl, hgl, k⟩
  show w_law_full c ⟨_, _, _, _, _⟩ [some (.lst (dIs vs)), some (.lst (dIs gs)), none, none, none, none] st
  unfold w_law_full
  walk_at "s"
  refine forD_ind (fun xs ρ st' => st' = st ∧ ∃ (done rest : List Int) (d3 d4 d5 : Option D), vs = done ++ rest ∧ xs = dIs rest ∧ ρ = [some (.lst (dIs vs)), some (.lst (dIs gs)), some (.lst (dRows (allSigns done))), d3, d4, d5]) ?_ ?_ _ _ _ ⟨rfl, [], vs, _, _, _, rfl, rfl, rfl⟩
  · rintro ρ st' ⟨rfl, done, rest, d3, d4, d5, h1, h2, rfl⟩
    refine ⟨trivial, ?_⟩
    have : rest = [] := by cases rest with | nil => rfl | cons _ _ => cases h2
    subst this
    rw [List.append_nil] at h1
    subst h1
    have hl := allSigns_len vs
    have hl2 : (allSigns vs).length ≤ 256 := by rw [hl]; exact Nat.pow_le_pow_right (n := 2) (by decide) hvl
    walk_at "s"
    refine lcD_pure (fun x => some (.lst (dIs (unR x ++ gs.map fun g => -g)))) trivial _ _ (by simp [sizeLine]; omega) (fun x hx acc K hK => ?_) ?_
    · obtain ⟨T, hT, rfl⟩ := mem_dRows hx
      have hT2 := (allSigns_row vs T hT).2
      rw [unR_row] at hK
      walk_at "s"
      refine lcD_pure (fun x => match x with | .int l => some (.int (-l)) | _ => none) trivial _ _ (by simp [sizeLine]; omega) (fun x hx acc K hK => ?_) ?_
      · obtain ⟨l, _, rfl⟩ := mem_dIs hx
        walk_at "s"
        exact hK
      rw [List.nil_append, fm_map (fun l => -l) fun l => rfl]
      refine dAdd_l rfl rfl (by simp [sizeLine]; omega) ?_
      rw [dIs_app]
      exact hK
    rw [List.nil_append, fm_rows (fun r => r ++ gs.map fun g => -g) fun r => by rw [unR_row]]
    exact k
  · rintro x xs ρ st' K ⟨rfl, done, rest, d3, d4, d5, h1, h2, rfl⟩ hK
    refine ⟨trivial, ?_⟩
    cases rest with
    | nil => cases h2
    | cons v rest =>
    cases h2
    have hdl : done.length ≤ 7 := by rw [h1] at hvl; simp at hvl; omega
    have hl := allSigns_len done
    have hl2 : (allSigns done).length ≤ 128 := by rw [hl]; exact Nat.pow_le_pow_right (n := 2) (by decide) hdl
    walk_at "s"
    refine lcD_pure (fun x => some (.lst (dIs (unR x ++ [v])))) trivial _ _ (by simp [sizeLine]; omega) (fun x hx acc K hK => ?_) ?_
    · obtain ⟨T, hT, rfl⟩ := mem_dRows hx
      have := (allSigns_row done T hT).2
      walk_at "s"
      refine dAdd_l rfl rfl (by simp [sizeLine]; omega) ?_
      rw [unR_row] at hK
      simpa [dIs] using hK
    rw [List.nil_append, fm_rows (fun r => r ++ [v]) fun r => by rw [unR_row]]
    walk_at "s"
    refine lcD_pure (fun x => some (.lst (dIs (unR x ++ [-v])))) trivial _ _ (by simp [sizeLine]; omega) (fun x hx acc K hK => ?_) ?_
    · obtain ⟨T, hT, rfl⟩ := mem_dRows hx
      have := (allSigns_row done T hT).2
      walk_at "s"
      refine dAdd_l rfl rfl (by simp [sizeLine]; omega) ?_
      rw [unR_row] at hK
      simpa [dIs] using hK
    rw [List.nil_append, fm_rows (fun r => r ++ [-v]) fun r => by rw [unR_row]]
    refine dAdd_l rfl rfl (by simp [sizeLine]; omega) ?_
    rw [dRows_app, ← allSigns_snoc]
    walk_at "s"
    exact hK _ _ ⟨rfl, done ++ [v], rest, _, _, _, by simp [h1], rfl, rfl⟩
theorem rngDn_cons (i : Int) (n : Nat) : rngDn i (n + 1) = .int i :: rngDn (i - 1) n := by
  unfold rngDn
  rw [List.range_succ_eq_map]
  simp
  intro a _
  omega
/-- rows shuffled, each -/
theorem shuf_rows (c : Cl) {b v i n : Nat} {ρ : DEnv} {R : List D → Sto → Prop} {rows : List (List Int)} {st : Sto} (hb : Bag st b n) (h0 : ∀ x, (ρ.set i (some x))[0]? = some (some (.hdl b))) (hi : ∀ x, (ρ.set i (some x))[i]? = some (some x)) (hr : ∀ r ∈ rows, r.length ≤ 1000) (hl : rows.length ≤ 1000) (hn : n + 10000 * rows.length + 10000 < 2 ^ 60)
    (k : ∀ rows' st', EachPerm rows' rows → BX b st (n + 10000 * rows.length) st' → R (dRows rows') st') :
    lcD noInv (.nm i) mYes (mCall (sp_law_shuffled c) (maCons (mVar 0) (maCons (mVar i) maNil))) ρ R (dRows rows) [] st := by
  refine lcD_ind (fun xs acc st' => ∃ (done rest done' : List (List Int)), rows = done ++ rest ∧ xs = dRows rest ∧ acc = dRows done' ∧ EachPerm done' done ∧ BX b st (n + 10000 * done.length) st') ?_ ?_ _ _ _ ⟨[], rows, [], rfl, rfl, rfl, trivial, BX.refl hb⟩
  · rintro acc st' ⟨done, rest, done', h1, h2, rfl, h3, h4⟩
    refine ⟨trivial, ?_⟩
    have : rest = [] := by cases rest with | nil => rfl | cons _ _ => cases h2
    subst this
    rw [List.append_nil] at h1
    subst h1
    exact k _ _ h3 h4
  · rintro x xs acc st' K ⟨done, rest, done', h1, h2, rfl, h3, h4⟩ hK
    refine ⟨trivial, ?_⟩
    cases rest with
    | nil => cases h2
    | cons r rest =>
    cases h2
    have hdl : done.length + 1 ≤ rows.length := by rw [h1]; simp
    refine tnm_i rfl ?_
    walk_at "s"
    refine mCall_i (maCons_i (mVar_i (h0 _) (maCons_i (mVar_i (hi _) (maNil_i ?_)))))
    refine ⟨b, _, _, _, rfl, h4.bag, (fun e => by cases e), rfl, by have := hr r (by rw [h1]; simp); simp; omega, by omega, fun ys st2 hp hx => ?_⟩
    obtain ⟨r', rfl, hp'⟩ := perm_map_inv hp r rfl
    refine ⟨by rw [dRows, List.length_map, h3.len]; simp [sizeLine]; omega, hK _ _ ⟨done ++ [r], rest, done' ++ [r'], by simp [h1], rfl, by simp [dRows], h3.snoc hp', (h4.trans hx).mono (by simp; omega)⟩⟩
theorem sem_law_planted (c : Cl) {a0 a1 a2 a3 a4 a5 a6 : Str} : ∀ ds st R xq, sp_law_planted c ds st R xq → w_law_planted c (EndsOf R xq) (startD [a0, a1, a2, a3, a4, a5, a6] ds) st := by
  rintro ds st R xq ⟨b, n, vs, gs, rfl, hb, hvl, hgl, hn, k⟩
  show w_law_planted c ⟨_, _, _, _, _⟩ [some (.hdl b), some (.lst (dIs vs)), some (.lst (dIs gs)), none, none, none, none] st
  unfold w_law_planted
  have pw : ∀ m, m ≤ 7 → 2 ^ m ≤ 128 := fun m h => Nat.pow_le_pow_right (n := 2) (by decide) h
  have rowl : ∀ m, ∀ r ∈ fullR (vs.take m) gs, r.length ≤ 1000 := fun m r hr => by
    obtain ⟨r', h1, rfl⟩ := List.mem_map.mp hr
    have := (allSigns_row _ r' h1).2
    simp [this]; omega
  walk_at "s"
  refine ⟨vs, gs, rfl, by omega, by omega, ?_⟩
  walk_at "s"
  have fl := fullR_len vs gs
  have fl2 := pw vs.length hvl
  refine ⟨b, _, _, n, rfl, hb, (fun e => by cases e), rfl, by simp [fl]; omega, by omega, fun ys st1 hp x1 => ?_⟩
  obtain ⟨cl0, rfl, hp0⟩ := perm_map_inv hp (fullR vs gs) rfl
  walk_at "s"
  refine ⟨rfl, ⟨by simp; omega, by simp; omega, by omega, by omega⟩, ?_⟩
  have ecnt : ((((dIs vs).length : Int) - 1) - -1).toNat = vs.length := by simp
  rw [ecnt]
  refine forD_ind (fun xs ρ st' => ∃ (q : Nat) (Ls : List (List (List Int))) (d5 : Option D), xs = rngDn (((dIs vs).length : Int) - 1 - q) (vs.length - q) ∧ q ≤ vs.length ∧ ρ = [some (.hdl b), some (.lst (dIs vs)), some (.lst (dIs gs)), some (.lst (dRows cl0)), some (.lst (dRows Ls.flatten)), d5, none] ∧ Ls.length = q ∧ (∀ i, i < q → ∃ L, Ls[i]? = some L ∧ L.Perm (fullR (vs.take (vs.length - 1 - i)) gs)) ∧ Ls.flatten.length ≤ 128 * q ∧ BX b st (n + 10000 + 10000 * q) st') ?_ ?_ _ _ _ ⟨0, [], _, by simp, by omega, rfl, rfl, by simp, by simp, x1⟩
  · rintro ρ st' ⟨q, Ls, d5, hx, hq, rfl, hL, hLs, hfl, x2⟩
    refine ⟨trivial, ?_⟩
    have hqe : q = vs.length := by
      have := congrArg List.length hx
      simp [rngDn] at this; omega
    subst hqe
    walk_at "s"
    refine shuf_rows c x2.bag (v := 0) (by intro _; rfl) (by intro _; rfl) (fun r hr => ?_) (by rw [hp0.length_eq, fl]; omega) (by rw [hp0.length_eq, fl]; omega) fun cl st2 he x3 => ?_
    · have := rowl vs.length r (by rw [List.take_length]; exact hp0.mem_iff.mp hr); omega
    walk_at "s"
    have hcl : cl0.length = 2 ^ vs.length := by rw [hp0.length_eq, fl]
    have eh : (st2 ++ [Cell.lst (dRows cl)])[st2.length]? = some (.lst (dRows cl)) := get_last
    have hbl := x3.bag.lt
    refine shuf_rows c (st := st2 ++ [.lst (dRows cl)]) (rows := Ls.flatten) (i := 6) (n := n + 10000 + 10000 * vs.length + 10000 * cl0.length) (ρ := [some (.hdl b), some (.lst (dIs vs)), some (.lst (dIs gs)), some (.lst (dRows cl0)), some (.lst (dRows Ls.flatten)), d5, none]) x3.bag.app (v := 0) (by intro _; rfl) (by intro _; rfl) (fun r hr => ?_) (by omega) (by omega) fun ln st3 he2 x4 => ?_
    · obtain ⟨L, hLm, hr'⟩ := List.mem_flatten.mp hr
      obtain ⟨i, hi, e⟩ := List.getElem_of_mem hLm
      obtain ⟨L', e', hp'⟩ := hLs i (by omega)
      rw [List.getElem?_eq_getElem hi, e] at e'
      cases e'
      have := rowl _ r (hp'.mem_iff.mp hr'); omega
    walk_at "s"
    have eh3 : st3[st2.length]? = some (.lst (dRows cl)) := x4.ex.cell eh (by omega)
    have hle : st2.length + 1 ≤ st3.length := by have := x4.ex.len; simpa using this
    -- the lines by their blocks
    obtain ⟨Ls', e1, e2, e3⟩ : ∃ Ls' : List (List (List Int)), ln = Ls'.flatten ∧ Ls'.length = Ls.length ∧ ∀ (i : Nat) (L : List (List Int)), Ls[i]? = some L → ∃ L' : List (List Int), Ls'[i]? = some L' ∧ EachPerm L' L := by
      have key : ∀ (Ls : List (List (List Int))) (ln : List (List Int)), EachPerm ln Ls.flatten → ∃ Ls' : List (List (List Int)), ln = Ls'.flatten ∧ Ls'.length = Ls.length ∧ ∀ (i : Nat) (L : List (List Int)), Ls[i]? = some L → ∃ L' : List (List Int), Ls'[i]? = some L' ∧ EachPerm L' L := by
        intro Ls
        induction Ls with
        | nil =>
          intro ln h
          cases ln with
          | nil => exact ⟨[], rfl, rfl, by simp⟩
          | cons _ _ => exact h.elim
        | cons L Ls ih =>
          intro ln h
          rw [List.flatten_cons] at h
          obtain ⟨u, w, rfl, h1, h2⟩ := h.split
          obtain ⟨Ls', rfl, h3, h4⟩ := ih w h2
          refine ⟨u :: Ls', by simp, by simp [h3], fun i L0 e => ?_⟩
          cases i with
          | zero => simp at e; subst e; exact ⟨u, by simp, h1⟩
          | succ i => obtain ⟨L', q1, q2⟩ := h4 i L0 (by simpa using e); exact ⟨L', by simpa using q1, q2⟩
      exact key Ls ln he2
    subst e1
    refine k st2.length st3.length cl Ls' _ ?_ ?_ (by omega) (get_app eh3) get_last ⟨cl0, hp0, he⟩ (e2.trans hL) (fun i hi => ?_) ?_
    · have := x2.ex.len; have := x3.ex.len; omega
    · have := x2.ex.len; have := x3.ex.len; omega
    · obtain ⟨L, q1, q2⟩ := hLs i hi
      obtain ⟨L', q3, q4⟩ := e3 i L q1
      exact ⟨L', q3, L, q2, q4⟩
    · refine BX.mono (n := n + 10000 + 10000 * vs.length + 10000 * cl0.length + 10000 * Ls.flatten.length) ((x2.trans x3).trans ?_) (by rw [hcl]; omega)
      exact ⟨ExB.app.trans (x4.ex.trans .app), x4.bag.app⟩
  · rintro x xs ρ st' K ⟨q, Ls, d5, hx, hq, rfl, hL, hLs, hfl, x2⟩ hK
    refine ⟨trivial, ?_⟩
    have hlt : q < vs.length := by
      have := congrArg List.length hx
      simp [rngDn] at this; omega
    obtain ⟨w, hw⟩ : ∃ w, vs.length - q = w + 1 := ⟨vs.length - q - 1, by omega⟩
    rw [hw, rngDn_cons] at hx
    cases hx
    walk_at "s"
    have ei : ((dIs vs).length : Int) - 1 - q = ((vs.length - 1 - q : Nat) : Int) := by simp; omega
    rw [ei]
    simp only [dSl, dr_lstD]
    rw [cut_take (by simp; omega)]
    have et : (dIs vs).take (vs.length - 1 - q) = dIs (vs.take (vs.length - 1 - q)) := by simp [dIs, List.map_take]
    rw [et]
    walk_at "s"
    refine ⟨_, gs, rfl, by simp; omega, by omega, ?_⟩
    walk_at "s"
    have fl' := fullR_len (vs.take (vs.length - 1 - q)) gs
    have fl3 : (fullR (vs.take (vs.length - 1 - q)) gs).length ≤ 128 := by rw [fl']; exact pw _ (by simp; omega)
    refine ⟨b, _, _, _, rfl, x2.bag, (fun e => by cases e), rfl, by simp; omega, by omega, fun ys st2 hp2 x3 => ?_⟩
    obtain ⟨L, rfl, hpL⟩ := perm_map_inv hp2 _ rfl
    have hLl := hpL.length_eq
    refine dAdd_l rfl rfl (by simp only [dRows, List.length_map, sizeLine]; omega) ?_
    rw [dRows_app]
    walk_at "s"
    refine hK _ _ ⟨q + 1, Ls ++ [L], _, ?_, by omega, by rw [show (Ls ++ [L]).flatten = Ls.flatten ++ L by simp], by simp [hL], fun i hi => ?_, by simp only [List.flatten_append, List.length_append, List.flatten_cons, List.flatten_nil, List.append_nil]; omega, (x2.trans x3).mono (by omega)⟩
    · rw [show vs.length - (q + 1) = w by omega]
      congr 1
      rw [ei]; omega
    · by_cases e : i < q
      · obtain ⟨L', q1, q2⟩ := hLs i e
        exact ⟨L', by rw [List.getElem?_append_left (by omega)]; exact q1, q2⟩
      · have : i = q := by omega
        subst this
        exact ⟨L, by rw [List.getElem?_append_right (by omega), hL]; simp, hpL⟩

/-- rows of a list at h: no handle is b's or h's, no tuples -/
def LQ (b h : Nat) (st : Sto) (xs : List D) (rows : List (List Int)) : Prop := QRows st.length st xs rows ∧ ∀ x ∈ xs, x ≠ .hdl b ∧ x ≠ .hdl h ∧ ∀ ys, x ≠ .tup ys
theorem LQ.keep {b h : Nat} {st st' : Sto} {xs : List D} {rows : List (List Int)} (q : LQ b h st xs rows) (l : st.length ≤ st'.length) (f : ∀ k, k < st.length → k ≠ b → k ≠ h → st'[k]? = st[k]?) : LQ b h st' xs rows := by
  obtain ⟨q1, q2⟩ := q
  refine ⟨?_, q2⟩
  have key : ∀ (xs : List D) (rs : List (List Int)), QRows st.length st xs rs → (∀ x ∈ xs, x ≠ .hdl b ∧ x ≠ .hdl h ∧ ∀ ys, x ≠ .tup ys) → QRows st'.length st' xs rs := by
    intro xs
    induction xs with
    | nil => intro rs hq _; cases rs with | nil => trivial | cons _ _ => exact hq.elim
    | cons x xs ih =>
      intro rs hq hn
      cases rs with
      | nil => exact hq.elim
      | cons r rs =>
      refine ⟨?_, ih rs hq.2 fun y hy => hn y (by simp [hy])⟩
      obtain ⟨n1, n2, _⟩ := hn x (by simp)
      rcases hq.1 with e | e | ⟨k, h1, h2, h3⟩
      · exact .inl e
      · exact .inr (.inl e)
      · exact .inr (.inr ⟨k, by omega, h2, (f k h1 (fun e => n1 (by rw [h2, e])) fun e => n2 (by rw [h2, e])).trans h3⟩)
  exact key xs rows q1 q2
theorem LQ.rows {b h : Nat} {st : Sto} {xs : List D} {rows : List (List Int)} (q : LQ b h st xs rows) (e : st[h]? = some (.lst xs)) (hb : h ≠ b) : RowsL b st (.hdl h) rows :=
  ⟨xs, .inr (.inr ⟨h, (List.getElem?_eq_some_iff.mp e).1, rfl, e⟩), (fun e => hb (by injection e)), q.1, fun x hx => (q.2 x hx).1, (fun ys e => by cases e), fun x hx => (q.2 x hx).2.2⟩
theorem QRows.set {b : Nat} {st : Sto} {x : D} {r : List Int} (q : QAt b st x (dIs r)) : ∀ (i : Nat) {xs : List D} {rs : List (List Int)}, QRows b st xs rs → QRows b st (xs.set i x) (rs.set i r)
  | _, [], [], _ => trivial
  | _, [], _ :: _, h => h.elim
  | _, _ :: _, [], h => h.elim
  | 0, _ :: _, _ :: _, h => ⟨q, h.2⟩
  | i + 1, _ :: _, _ :: _, h => ⟨h.1, QRows.set q i h.2⟩
theorem QRows.erase {b : Nat} {st : Sto} : ∀ (i : Nat) {xs : List D} {rs : List (List Int)}, QRows b st xs rs → QRows b st (xs.eraseIdx i) (rs.eraseIdx i)
  | _, [], [], _ => trivial
  | _, [], _ :: _, h => h.elim
  | _, _ :: _, [], h => h.elim
  | 0, _ :: _, _ :: _, h => h.2
  | i + 1, _ :: _, _ :: _, h => ⟨h.1, QRows.erase i h.2⟩
section
variable {b h : Nat} {st : Sto} {xs : List D} {rows : List (List Int)}
theorem LQ.set (q : LQ b h st xs rows) (i : Nat) {x : D} {r : List Int} (hx : QAt st.length st x (dIs r)) (hn : x ≠ .hdl b ∧ x ≠ .hdl h ∧ ∀ ys, x ≠ .tup ys) : LQ b h st (xs.set i x) (rows.set i r) :=
  ⟨QRows.set hx i q.1, fun y hy => by
    rcases List.mem_or_eq_of_mem_set hy with z | z
    · exact q.2 y z
    · exact z ▸ hn⟩
theorem LQ.erase (q : LQ b h st xs rows) (i : Nat) : LQ b h st (xs.eraseIdx i) (rows.eraseIdx i) := ⟨QRows.erase i q.1, fun y hy => q.2 y (List.mem_of_mem_eraseIdx hy)⟩
theorem LQ.ins (q : LQ b h st xs rows) (i : Nat) {x : D} {r : List Int} (hx : QAt st.length st x (dIs r)) (hn : x ≠ .hdl b ∧ x ≠ .hdl h ∧ ∀ ys, x ≠ .tup ys) : LQ b h st (xs.take i ++ [x] ++ xs.drop i) (rows.take i ++ [r] ++ rows.drop i) :=
  ⟨((QRows.take i q.1).snoc hx).app (QRows.drop i q.1), fun y hy => by
    simp only [List.mem_append, List.mem_singleton] at hy
    rcases hy with (hy | rfl) | hy
    · exact q.2 y (List.mem_of_mem_take hy)
    · exact hn
    · exact q.2 y (List.mem_of_mem_drop hy)⟩
theorem LQ.get (q : LQ b h st xs rows) {i : Nat} {r : List Int} (e : rows[i]? = some r) : ∃ x, xs[i]? = some x ∧ QAt st.length st x (dIs r) ∧ x ≠ .hdl b ∧ x ≠ .hdl h ∧ ∀ ys, x ≠ .tup ys := by
  obtain ⟨x, h1, h2⟩ := QRows.get i q.1 e
  exact ⟨x, h1, h2, q.2 x (List.mem_of_getElem? h1)⟩
end
theorem atI_nat {α : Type} {xs : List α} {i : Int} {x : α} (h0 : 0 ≤ i) (e : xs[i.toNat]? = some x) : atI xs i = some x := by
  have := (List.getElem?_eq_some_iff.mp e).1
  unfold atI ixN
  rw [if_pos h0, if_pos (by omega)]
  exact e
theorem ixN_nat' {n : Nat} {i : Int} (h0 : 0 ≤ i) (h : i < n) : ixN n i = some i.toNat := by
  unfold ixN; rw [if_pos h0, if_pos h]
theorem seqIndex_nat {n : Nat} {i : Int} (h0 : 0 ≤ i) (h : i < n) : seqIndex? i n = some i.toNat := by
  have q1 : ¬ i < 0 := by omega
  simp [seqIndex?, q1, h0, h]
/-- the distinct handles' rows -/
def HRows (st : Sto) : List Nat → List (List Int) → Prop
  | [], [] => True
  | k :: ks, r :: rs => st[k]? = some (.lst (dIs r)) ∧ HRows st ks rs
  | _, _ => False
theorem HRows.keep {st st' : Sto} : ∀ {hs : List Nat} {rs : List (List Int)}, (∀ k ∈ hs, st'[k]? = st[k]?) → HRows st hs rs → HRows st' hs rs
  | [], [], _, _ => trivial
  | [], _ :: _, _, h => h.elim
  | _ :: _, [], _, h => h.elim
  | k :: ks, _ :: _, f, h => ⟨(f k (by simp)).trans h.1, HRows.keep (fun j hj => f j (by simp [hj])) h.2⟩
theorem HRows.set {st : Sto} {k : Nat} {r : List Int} : ∀ {hs : List Nat} {rs : List (List Int)} (i : Nat), HRows st hs rs → hs.Nodup → hs[i]? = some k → HRows (st.set k (.lst (dIs r))) hs (rs.set i r)
  | [], [], i, _, _, e => by simp at e
  | [], _ :: _, _, h, _, _ => h.elim
  | _ :: _, [], _, h, _, _ => h.elim
  | j :: js, r0 :: rs, 0, h, hn, e => by
    simp at e; subst e
    refine ⟨getElem?_set_same h.1 _, HRows.keep (fun i hi => List.getElem?_set_ne fun e => ?_) h.2⟩
    exact (List.nodup_cons.mp hn).1 (e ▸ hi)
  | j :: js, r0 :: rs, i + 1, h, hn, e => by
    have e' : js[i]? = some k := by simpa using e
    have : j ≠ k := fun q => (List.nodup_cons.mp hn).1 (q ▸ List.mem_of_getElem? e')
    exact ⟨(List.getElem?_set_ne (Ne.symm this)).trans h.1, HRows.set i h.2 (List.nodup_cons.mp hn).2 e'⟩
theorem HRows.get {st : Sto} : ∀ {hs : List Nat} {rs : List (List Int)} (i : Nat) {r : List Int}, HRows st hs rs → rs[i]? = some r → ∃ k, hs[i]? = some k ∧ st[k]? = some (.lst (dIs r))
  | [], [], _, _, _, e => by simp at e
  | [], _ :: _, _, _, h, _ => h.elim
  | _ :: _, [], _, _, h, _ => h.elim
  | k :: _, _ :: _, 0, _, h, e => by simp at e; subst e; exact ⟨k, by simp, h.1⟩
  | _ :: _, _ :: _, i + 1, _, h, e => by
    obtain ⟨x, h1, h2⟩ := HRows.get i h.2 (by simpa using e)
    exact ⟨x, by simpa using h1, h2⟩
theorem HRows.lq {b h : Nat} {st : Sto} : ∀ {hs : List Nat} {rs : List (List Int)}, HRows st hs rs → b ∉ hs → h ∉ hs → LQ b h st (dHs hs) rs
  | [], [], _, _, _ => ⟨trivial, fun x hx => by cases hx⟩
  | [], _ :: _, q, _, _ => q.elim
  | _ :: _, [], q, _, _ => q.elim
  | k :: ks, _ :: _, q, n1, n2 => by
    simp only [List.mem_cons, not_or] at n1 n2
    obtain ⟨h1, h2⟩ := HRows.lq q.2 n1.2 n2.2
    refine ⟨⟨.inr (.inr ⟨k, (List.getElem?_eq_some_iff.mp q.1).1, rfl, q.1⟩), h1⟩, fun x hx => ?_⟩
    rcases List.mem_cons.mp hx with rfl | hx
    · exact ⟨fun e => n1.1 (by injection e with e; exact e.symm), fun e => n2.1 (by injection e with e; exact e.symm), fun ys e => by cases e⟩
    · exact h2 x hx
def hsOf (s n : Nat) : List Nat := (List.range n).map fun i => s + i
theorem hsOf_succ (s n : Nat) : hsOf s (n + 1) = hsOf s n ++ [s + n] := by unfold hsOf; rw [List.range_succ]; simp
theorem hsOf_mem {s n k : Nat} : k ∈ hsOf s n ↔ s ≤ k ∧ k < s + n := by
  unfold hsOf
  simp only [List.mem_map, List.mem_range]
  constructor
  · rintro ⟨i, h, rfl⟩; omega
  · intro h; exact ⟨k - s, by omega, by omega⟩
theorem hsOf_nodup (s n : Nat) : (hsOf s n).Nodup := by
  unfold hsOf
  rw [List.Nodup, List.pairwise_map]
  exact List.nodup_range.imp fun h e => h (by omega)
theorem HRows.snoc {st : Sto} {k : Nat} {r : List Int} (q : st[k]? = some (.lst (dIs r))) : ∀ {hs : List Nat} {rs : List (List Int)}, HRows st hs rs → HRows st (hs ++ [k]) (rs ++ [r])
  | [], [], _ => ⟨q, trivial⟩
  | [], _ :: _, h => h.elim
  | _ :: _, [], h => h.elim
  | _ :: _, _ :: _, h => ⟨h.1, HRows.snoc q h.2⟩
theorem HRows.len {st : Sto} : ∀ {hs : List Nat} {rs : List (List Int)}, HRows st hs rs → hs.length = rs.length
  | [], [], _ => rfl
  | [], _ :: _, h => h.elim
  | _ :: _, [], h => h.elim
  | _ :: _, _ :: _, h => by simp [HRows.len h.2]
/-- rows copied, each to a handle -/
theorem copy_rows {i : Nat} {ρ : DEnv} {R : List D → Sto → Prop} {rows : List (List Int)} {xs0 : List D} {st : Sto} {inv : Sto → Prop} (hinv : ∀ st' : Sto, (∀ k, k < st.length → st'[k]? = st[k]?) → inv st') (hq : QRows st.length st xs0 rows) (hi : ∀ x, (ρ.set i (some x))[i]? = some (some x)) (hl : rows.length ≤ 100000)
    (k : ∀ st', HRows st' (hsOf st.length rows.length) rows → st'.length = st.length + rows.length → (∀ k, k < st.length → st'[k]? = st[k]?) → R (dHs (hsOf st.length rows.length)) st') :
    lcD inv (.nm i) mYes (mCa dListH (maCons (mVar i) maNil)) ρ R xs0 [] st := by
  refine lcD_ind (fun xs acc st' => ∃ (done rest : List (List Int)), rows = done ++ rest ∧ QRows st.length st xs rest ∧ acc = dHs (hsOf st.length done.length) ∧ HRows st' (hsOf st.length done.length) done ∧ st'.length = st.length + done.length ∧ ∀ k, k < st.length → st'[k]? = st[k]?) ?_ ?_ _ _ _ ⟨[], rows, rfl, hq, rfl, trivial, rfl, fun _ _ => rfl⟩
  · rintro acc st' ⟨done, rest, h1, h2, rfl, h3, h4, h5⟩
    refine ⟨hinv _ h5, ?_⟩
    have : rest = [] := by cases rest with | nil => rfl | cons _ _ => exact h2.elim
    subst this
    rw [List.append_nil] at h1
    subst h1
    exact k _ h3 h4 h5
  · rintro x xs acc st' K ⟨done, rest, h1, h2, rfl, h3, h4, h5⟩ hK
    refine ⟨hinv _ h5, ?_⟩
    cases rest with
    | nil => exact h2.elim
    | cons r rest =>
    obtain ⟨hx, h2⟩ := h2
    have hdl : done.length + 1 ≤ rows.length := by rw [h1]; simp
    refine tnm_i rfl ?_
    walk_at "s"
    refine mCa_i (maCons_i (mVar_i (hi _) (maNil_i (dListH_qq (hx.fr (Nat.le_refl _) h5).drs ?_))))
    refine ⟨by simp [hsOf, sizeLine]; omega, hK _ _ ⟨done ++ [r], rest, by simp [h1], h2, ?_, ?_, by simp [h4]; omega, fun k hk => ?_⟩⟩
    · rw [List.length_append, List.length_singleton, hsOf_succ, dHs, dHs, List.map_append, h4]; rfl
    · rw [List.length_append, List.length_singleton, hsOf_succ]
      refine HRows.snoc (by rw [← h4]; exact get_last) (HRows.keep (fun k hk => ?_) h3)
      have := hsOf_mem.mp hk
      exact List.getElem?_append_left (by omega)
    · rw [List.getElem?_append_left (by omega)]; exact h5 k hk
theorem okV_take {vs r : List Int} {i : Nat} (h : okV vs r) : okV vs (r.take i) := fun l hl => h l (List.mem_of_mem_take hl)
theorem okV_drop {vs r : List Int} {i : Nat} (h : okV vs r) : okV vs (r.drop i) := fun l hl => h l (List.mem_of_mem_drop hl)
theorem okV_app {vs r s : List Int} (h : okV vs r) (h' : okV vs s) : okV vs (r ++ s) := fun l hl => (List.mem_append.mp hl).elim (h l) (h' l)
theorem okV_neg {vs : List Int} {l : Int} (h : l ∈ vs ∨ -l ∈ vs) : -l ∈ vs ∨ -(-l) ∈ vs := by rw [Int.neg_neg]; exact h.symm

theorem dExt_h {st : Sto} {R : DQ} {j : Nat} {xs ys : List D} (e : st[j]? = some (.lst xs)) (hl : xs.length + ys.length ≤ sizeLine) (h : R .non (st.set j (.lst (xs ++ ys)))) : dExt (.hdl j) [.lst ys] st R := by
  simp only [dExt, onH_hdl e]; exact ⟨hl, h⟩
theorem changed_mid (c : Cl) {T : MS} {nx bk ct : DEnv → Sto → Prop} {R : DQ} {xq : XQ} {b h n : Nat} {at' to one kind : Int} {d1 d2 d9 : Option D} {st : Sto} {xs : List D} {rows : List (List Int)} (hb : Bag st b n) (hh : st[h]? = some (.lst xs)) (hhb : h ≠ b) (q : LQ b h st xs rows) (ha : 0 ≤ at') (hal : at' < max 1 (rows.length : Int)) (hn : n + 1 < 2 ^ 60) (hr : ∀ r ∈ rows, r.length ≤ 100000)
    (k0 : RowsL b st (.hdl h) rows → R (.hdl h) st) (k : ∀ (p : Int) (r : List Int) (st' : Sto), rows[at'.toNat]? = some r → 0 ≤ p → p ≤ r.length → BX b st (n + 1) st' → T ⟨nx, R, bk, ct, xq⟩ [some (.hdl b), d1, d2, some (.hdl h), some (.int kind), some (.int at'), some (.int to), some (.int one), some (.int p), d9] st') :
    (sSeq (sIf (mTest (mOp (dEQ false) (mVar 3) (mLst maNil)))
  (sRt (mVar 3))
  sNx)
  (sSeq (sAs (mCall (sp_law_draw c) (maCons (mVar 0) (maCons (mOp dAdd (mCa dLen (maCons (mOp dIx (mVar 3) (mVar 5)) maNil)) (mC (.int 1))) maNil))) (gNm 8)) T)) ⟨nx, R, bk, ct, xq⟩ [some (.hdl b), d1, d2, some (.hdl h), some (.int kind), some (.int at'), some (.int to), some (.int one), none, d9] st := by
  have hL := q.rows hh hhb
  walk_at "s"
  refine dEQ_rows0 hL ?_
  walk_at "s"
  by_cases h0 : rows = []
  · refine ifT (by rw [decide_eq_true h0]; rfl) ?_
    walk_at "s"
    exact k0 hL
  · refine ifF (by rw [decide_eq_false h0]; rfl) ?_
    have hpos : 0 < rows.length := List.length_pos_iff.mpr h0
    have hlt : at'.toNat < rows.length := by omega
    obtain ⟨x, ex, hx, _⟩ := q.get (i := at'.toNat) (r := rows[at'.toNat]) (List.getElem?_eq_getElem hlt)
    walk_at "s"
    refine dIx_h hh (atI_nat ha ex) ?_
    walk_at "s"
    refine dLen_q hx.drs ?_
    walk_at "s"
    have := hr _ (List.getElem_mem hlt)
    refine ⟨b, _, n, rfl, hb, by omega, by simp; omega, hn, fun p st' p0 p1 x1 => ?_⟩
    walk_at "s"
    exact k p _ st' (List.getElem?_eq_getElem hlt) p0 (by simp at p1; omega) x1
theorem sem_law_changed (c : Cl) {a0 a1 a2 a3 a4 a5 a6 a7 a8 a9 : Str} : ∀ ds st R xq, sp_law_changed c ds st R xq → w_law_changed c (EndsOf R xq) (startD [a0, a1, a2, a3, a4, a5, a6, a7, a8, a9] ds) st := by
  rintro ds st R xq ⟨b, n, m, d, vs, rows, rfl, hb, hL, hvn, hvl, hv, hr, hm, hrl, hn, k⟩
  show w_law_changed c ⟨_, _, _, _, _⟩ [some (.hdl b), some d, some (.lst (dIs vs)), none, none, none, none, none, none, none] st
  unfold w_law_changed
  walk_at "s"
  obtain ⟨xs0, hq, _, hqr, _⟩ := hL
  refine dIt_q hq fun inv hinv => ?_
  refine copy_rows (i := 9) (ρ := [some (.hdl b), some d, some (.lst (dIs vs)), none, none, none, none, none, none, none]) hinv hqr (by intro _; rfl) (by omega) fun st1 hR hlen hf => ?_
  walk_at "s"
  have hblt := hb.lt
  have hhs : (hsOf st.length rows.length).length = rows.length := by simp [hsOf]
  generalize hhsd : hsOf st.length rows.length = hs at hR hhs
  have hsnd : hs.Nodup := hhsd ▸ hsOf_nodup _ _
  have hsm : ∀ i, i ∈ hs → st.length ≤ i ∧ i < st1.length := fun i hi => by rw [← hhsd] at hi; have := hsOf_mem.mp hi; omega
  generalize hhd : st1.length = h
  have hhb : h ≠ b := by omega
  have bag1 : Bag (st1 ++ [Cell.lst (dHs hs)]) b n := by
    obtain ⟨cell, e, hc⟩ := hb
    exact ⟨cell, get_app ((hf b hblt).trans e), hc⟩
  have eh1 : (st1 ++ [Cell.lst (dHs hs)])[h]? = some (.lst (dHs hs)) := by rw [← hhd]; exact get_last
  have hR1 : HRows (st1 ++ [Cell.lst (dHs hs)]) hs rows := hR.keep fun i hi => List.getElem?_append_left (hsm i hi).2
  have ex1 : BX b st n (st1 ++ [Cell.lst (dHs hs)]) := ⟨⟨by simp; omega, fun i hi _ => (List.getElem?_append_left (by omega)).trans (hf i hi)⟩, bag1⟩
  generalize st1 ++ [Cell.lst (dHs hs)] = st2 at bag1 eh1 hR1 ex1
  have mx : ∀ z : Int, (if (1 : Int) < z then z else 1) = max 1 z := fun z => by split <;> omega
  refine ⟨b, _, n, rfl, bag1, by decide, by decide, by omega, fun kind st3 k0 k1 x3 => ?_⟩
  have eh3 := x3.ex.cell eh1 hhb
  walk_at "s"
  refine dLen_h eh3 ?_
  walk_at "s"
  refine ⟨b, _, _, rfl, x3.bag, by split <;> omega, by simp [hhs]; split <;> omega, by omega, fun at' st4 a0 a1 x4 => ?_⟩
  have eh4 := x4.ex.cell eh3 hhb
  walk_at "s"
  refine dLen_h eh4 ?_
  walk_at "s"
  refine ⟨b, _, _, rfl, x4.bag, by split <;> omega, by simp [hhs]; split <;> omega, by omega, fun to st5 t0 t1 x5 => ?_⟩
  have eh5 := x5.ex.cell eh4 hhb
  walk_at "s"
  refine ⟨b, vs, _, rfl, x5.bag, hvn, hvl, hv, by omega, fun one st6 ho x6 => ?_⟩
  have eh6 := x6.ex.cell eh5 hhb
  have nb : b ∉ hs := fun z => by have := hsm b z; omega
  have nh : h ∉ hs := fun z => by have := hsm h z; omega
  have hR6 : HRows st6 hs rows := hR1.keep fun i hi => by
    have e1 := hsm i hi
    have e2 : i ≠ b := fun e => nb (e ▸ hi)
    have := (x3.ex.trans (x4.ex.trans (x5.ex.trans x6.ex))).get i (by have := (List.getElem?_eq_some_iff.mp eh1).1; omega) e2
    exact this
  have x16 := ex1.trans (x3.trans (x4.trans (x5.trans x6)))
  clear x3 x4 x5 eh1 eh3 eh4 eh5 hR1 bag1 hR
  simp only [dHs, List.length_map, hhs] at a1 t1
  have at1 : at' < max 1 (rows.length : Int) := by split at a1 <;> omega
  have to1 : to < max 1 (rows.length : Int) := by split at t1 <;> omega
  have toL : to ≤ rows.length := by omega
  clear a1 t1
  walk_at "s"
  have fin : ∀ (st' : Sto) (xs : List D) (rows' : List (List Int)), st'[h]? = some (.lst xs) → LQ b h st' xs rows' → (∀ r ∈ rows', okV vs r ∧ r.length ≤ 2 * m + 4) → rows'.length ≤ rows.length + 1 → BX b st (n + 10000) st' → R (.hdl h) st' := fun st' xs rows' g1 g2 g3 g4 g5 =>
    k h rows' st' (by omega) (g2.rows g1 hhb) g3 g4 g5
  have hr4 : ∀ r ∈ rows, okV vs r ∧ r.length ≤ 2 * m + 4 := fun r hr' => ⟨(hr r hr').1, by have := (hr r hr').2; omega⟩
  by_cases hk : kind = 10
  · subst hk
    refine ifT rfl ?_
    walk_at "s"
    refine ⟨isLD_h eh6, ?_⟩
    walk_at "s"
    refine ⟨b, vs, 3, _, rfl, x6.bag, hvn, hvl, hv, by omega, by omega, by omega, fun cl st7 c1 c2 x7 => ?_⟩
    have eh7 := x7.ex.cell eh6 hhb
    walk_at "s"
    refine dIns_h eh7 (by simp [sizeLine, hhs]; omega) t0 (by omega) ?_
    have lq7 : LQ b h st7 (dHs hs) rows := (hR6.lq nb nh).keep x7.ex.len fun i hi ib _ => x7.ex.get i hi ib
    have lq8 : LQ b h (st7.set h (.lst ((dHs hs).take to.toNat ++ [.lst (dIs cl)] ++ (dHs hs).drop to.toNat))) ((dHs hs).take to.toNat ++ [.lst (dIs cl)] ++ (dHs hs).drop to.toNat) (rows.take to.toNat ++ [cl] ++ rows.drop to.toNat) :=
      (lq7.ins to.toNat (.inl rfl) ⟨fun e => (by cases e), fun e => (by cases e), fun ys e => (by cases e)⟩).keep (by simp) fun i _ _ ih => List.getElem?_set_ne (Ne.symm ih)
    have x8 : BX b st6 (n + 3010) (st7.set h (.lst ((dHs hs).take to.toNat ++ [.lst (dIs cl)] ++ (dHs hs).drop to.toNat))) → True := fun _ => trivial
    have bag8 := x7.bag.set (c := .lst ((dHs hs).take to.toNat ++ [.lst (dIs cl)] ++ (dHs hs).drop to.toNat)) hhb
    have lenr : (rows.take to.toNat ++ [cl] ++ rows.drop to.toNat).length = rows.length + 1 := by simp; omega
    have okr : ∀ r ∈ rows.take to.toNat ++ [cl] ++ rows.drop to.toNat, okV vs r ∧ r.length ≤ 2 * m + 4 := fun r hr' => by
      simp only [List.mem_append, List.mem_singleton] at hr'
      rcases hr' with (z | rfl) | z
      · exact hr4 r (List.mem_of_mem_take z)
      · exact ⟨c2, by omega⟩
      · exact hr4 r (List.mem_of_mem_drop z)
    have x68 : BX b st (n + 6000) (st7.set h (.lst ((dHs hs).take to.toNat ++ [.lst (dIs cl)] ++ (dHs hs).drop to.toNat))) := by
      have := (x16.trans x7).ex
      exact ⟨⟨by simp; exact this.len, fun i hi ib => by rw [List.getElem?_set_ne (by omega)]; exact this.get i hi ib⟩, bag8.mono (by omega)⟩
    refine changed_mid c bag8 (getElem?_set_same eh7 _) hhb lq8 a0 (by rw [lenr]; omega) (by omega) (fun r hr' => by have := (okr r hr').2; omega) (fun g => fin _ _ _ (getElem?_set_same eh7 _) lq8 okr (by omega) (x68.mono (by omega))) fun p r st9 er p0 p1 x9 => ?_
    walk_at "s"
    exact fin _ _ _ (x9.ex.cell (getElem?_set_same eh7 _) hhb) (lq8.keep x9.ex.len fun i hi ib _ => x9.ex.get i hi ib) okr (by omega) ((x68.trans x9).mono (by omega))
  · refine ifF (by simp [hk]) ?_
    walk_at "s1"
    refine changed_mid c x6.bag eh6 hhb (hR6.lq nb nh) a0 at1 (by omega) (fun r hr' => by have := (hr r hr').2; omega) (fun g => fin _ _ _ eh6 (hR6.lq nb nh) hr4 (by omega) (x16.mono (by omega))) fun p r st9 er p0 p1 x9 => ?_
    have eh9 := x9.ex.cell eh6 hhb
    have hR9 : HRows st9 hs rows := hR6.keep fun i hi => x9.ex.get i (by have := hsm i hi; have := (List.getElem?_eq_some_iff.mp eh6).1; omega) fun e => nb (e ▸ hi)
    have lq9 := hR9.lq (b := b) (h := h) nb nh
    have x19 := x16.trans x9
    have hrm : r ∈ rows := List.mem_of_getElem? er
    obtain ⟨hr1, hr2⟩ := hr r hrm
    obtain ⟨j, ej, ejr⟩ := hR9.get _ er
    have jm := hsm j (List.mem_of_getElem? ej)
    have jb : j ≠ b := fun e => nb (e ▸ List.mem_of_getElem? ej)
    have jh : j ≠ h := fun e => nh (e ▸ List.mem_of_getElem? ej)
    have hlt : at'.toNat < rows.length := (List.getElem?_eq_some_iff.mp er).1
    have edx : atI (dHs hs) at' = some (.hdl j) := atI_nat a0 (by simp [ej])
    -- a row written
    have wr : ∀ r' : List Int, okV vs r' → r'.length ≤ 2 * m + 4 → R (.hdl h) (st9.set j (.lst (dIs r'))) := fun r' g1 g2 => by
      refine fin _ _ (rows.set at'.toNat r') ((List.getElem?_set_ne jh).trans eh9) ((hR9.set _ hsnd ej).lq nb nh) (fun y hy => ?_) (by simp) ⟨⟨by simp; exact x19.ex.len, fun i hi ib => ?_⟩, (x19.bag.set jb).mono (by omega)⟩
      · rcases List.mem_or_eq_of_mem_set hy with z | z
        · exact hr4 y z
        · exact z ▸ ⟨g1, g2⟩
      · rw [List.getElem?_set_ne (by omega)]; exact x19.ex.get i hi ib
    -- the list written
    have wl : ∀ (xs : List D) (rows' : List (List Int)) (cs : List Cell), LQ b h (st9 ++ cs) xs rows' → (∀ y ∈ rows', y ∈ rows) → rows'.length ≤ rows.length + 1 → R (.hdl h) ((st9 ++ cs).set h (.lst xs)) := fun xs rows' cs g1 g2 g3 => by
      refine fin _ xs rows' (getElem?_set_same (get_app eh9) _) (g1.keep (by simp) fun i _ _ ih => List.getElem?_set_ne (Ne.symm ih)) (fun y hy => hr4 y (g2 y hy)) g3 ⟨⟨by simp; have := x19.ex.len; omega, fun i hi ib => ?_⟩, (x19.bag.app.set hhb).mono (by omega)⟩
      have := x19.ex.len
      rw [List.getElem?_set_ne (by omega), List.getElem?_append_left (by omega)]; exact x19.ex.get i hi ib
    have nat_p : p.toNat ≤ r.length := by omega
    have cases : kind = 0 ∨ kind = 1 ∨ kind = 2 ∨ kind = 3 ∨ kind = 4 ∨ kind = 5 ∨ kind = 6 ∨ kind = 7 ∨ kind = 8 ∨ kind = 9 := by omega
    have same : R (.hdl h) st9 := fin st9 _ rows eh9 lq9 hr4 (by omega) (x19.mono (by omega))
    have hto : to.toNat < rows.length := by omega
    have atN : (at'.toNat : Int) = at' := by omega
    have toN : (to.toNat : Int) = to := by omega
    -- a slice of a row written
    have sl : ∀ (ys : List Int) (e : Int), (∀ y ∈ ys, y ∈ vs ∨ -y ∈ vs) → ys.length ≤ 1 → p ≤ e → R (.hdl h) (st9.set j (.lst ((dIs r).take p.toNat ++ dIs ys ++ (dIs r).drop e.toNat))) := fun ys e g1 g2 g3 => by
      have q : (dIs r).take p.toNat ++ dIs ys ++ (dIs r).drop e.toNat = dIs (r.take p.toNat ++ ys ++ r.drop e.toNat) := by simp [dIs, List.map_take, List.map_drop]
      rw [q]
      exact wr _ (okV_app (okV_app (okV_take hr1) g1) (okV_drop hr1)) (by simp; omega)
    rcases cases with rfl | rfl | rfl | rfl | rfl | rfl | rfl | rfl | rfl | rfl
    · walk_at "s"
      try refine ifT rfl ?_
      walk_at "s"
      refine ⟨by decide, by decide, by simp [sizeLine], ?_⟩
      refine gSbSl_i ?_
      walk_at "s"
      refine dIx_h eh9 edx ?_
      walk_at "s"
      refine ⟨j, dIs r, dIs [one], p, _, rfl, rfl, rfl, ejr, rfl, (fun e => by cases e), p0, by simp <;> omega, by simp; omega, by simp [sizeLine]; omega, ?_⟩
      iterate 7 (walk_at "s"; try refine ifF rfl ?_)
      walk_at "s"
      exact sl [one] _ (fun y hy => by simp at hy; subst hy; exact ho) (by simp) (by simp <;> omega)
    · walk_at "s"
      try refine ifT rfl ?_
      walk_at "s"
      refine ⟨by decide, by decide, by simp [sizeLine], ?_⟩
      refine gSbSl_i ?_
      walk_at "s"
      refine dIx_h eh9 edx ?_
      walk_at "s"
      refine ⟨j, dIs r, dIs [one], p, _, rfl, rfl, rfl, ejr, rfl, (fun e => by cases e), p0, by simp <;> omega, by simp; omega, by simp [sizeLine]; omega, ?_⟩
      iterate 7 (walk_at "s"; try refine ifF rfl ?_)
      walk_at "s"
      exact sl [one] _ (fun y hy => by simp at hy; subst hy; exact ho) (by simp) (by simp <;> omega)
    · walk_at "s"
      try refine ifT rfl ?_
      walk_at "s"
      refine ⟨by decide, by decide, by simp [sizeLine], ?_⟩
      refine gSbSl_i ?_
      walk_at "s"
      refine dIx_h eh9 edx ?_
      walk_at "s"
      refine ⟨j, dIs r, dIs [], p, _, rfl, rfl, rfl, ejr, rfl, (fun e => by cases e), p0, by simp <;> omega, by simp; omega, by simp [sizeLine]; omega, ?_⟩
      iterate 7 (walk_at "s"; try refine ifF rfl ?_)
      walk_at "s"
      exact sl [] _ (fun y hy => by cases hy) (by simp) (by simp <;> omega)
    · walk_at "s"
      try refine ifF rfl ?_
      walk_at "s"
      try refine ifT rfl ?_
      walk_at "s"
      refine dIx_h eh9 edx ?_
      walk_at "s"
      refine dLen_h ejr ?_
      walk_at "s"
      refine ifD (fun g => ?_) (fun g => ?_)
      · have g' : p.toNat < r.length := by simp at g; omega
        walk_at "s"
        refine dIx_h eh9 edx ?_
        walk_at "s"
        refine dIx_h (d := .int r[p.toNat]) ejr (atI_nat p0 (by simp [g'])) ?_
        walk_at "s"
        refine dIx_h eh9 edx ?_
        walk_at "s"
        refine dSet_l ejr (ixN_nat' p0 (by simpa using g)) ?_
        iterate 5 (walk_at "s"; try refine ifF rfl ?_)
        walk_at "s"
        have q : (dIs r).set p.toNat (.int (-r[p.toNat])) = dIs (r.set p.toNat (-r[p.toNat])) := by simp [dIs, List.map_set]
        rw [q]
        refine wr _ (fun y hy => ?_) (by simp; omega)
        rcases List.mem_or_eq_of_mem_set hy with z | z
        · exact hr1 y z
        · exact z ▸ okV_neg (hr1 _ (List.getElem_mem g'))
      · iterate 5 (walk_at "s"; try refine ifF rfl ?_)
        walk_at "s"
        exact same
    · iterate 2 (walk_at "s"; try refine ifF rfl ?_)
      walk_at "s"
      try refine ifT rfl ?_
      walk_at "s"
      refine dIx_h eh9 edx ?_
      walk_at "s"
      refine ⟨isLD_h ejr, ?_⟩
      walk_at "s"
      refine dIx_h eh9 edx ?_
      walk_at "s"
      simp only [dSl, dr_hdl ejr]
      have cd : cutD (dIs r) (some p) none = dIs (r.drop p.toNat) := by
        have e := cut_drop (xs := dIs r) (n := p.toNat) (by simp; omega)
        rw [show ((p.toNat : Nat) : Int) = p by omega] at e
        rw [e]
        simp [dIs, List.map_drop]
      rw [cd]
      walk_at "s"
      refine dExt_h ejr (by simp [sizeLine]; omega) ?_
      iterate 4 (walk_at "s"; try refine ifF rfl ?_)
      walk_at "s"
      rw [dIs_app]
      exact wr _ (okV_app hr1 (okV_drop hr1)) (by simp; omega)
    · obtain ⟨y, ey, hy, ny⟩ := lq9.get (i := to.toNat) (r := rows[to.toNat]) (List.getElem?_eq_getElem hto)
      iterate 3 (walk_at "s"; try refine ifF rfl ?_)
      walk_at "s"
      try refine ifT rfl ?_
      walk_at "s"
      refine dIx_h eh9 edx ?_
      walk_at "s"
      refine dIx_h eh9 (atI_nat t0 ey) ?_
      walk_at "s"
      refine dSet_l eh9 (ixN_nat' a0 (by simp [hhs]; omega)) ?_
      walk_at "s"
      refine dSet_l (getElem?_set_same eh9 _) (ixN_nat' t0 (by simp [hhs]; omega)) ?_
      rw [List.set_set]
      iterate 3 (walk_at "s"; try refine ifF rfl ?_)
      walk_at "s"
      have l1 := (lq9.set at'.toNat hy ny).set to.toNat (x := .hdl j) (r := r) (.inr (.inr ⟨j, (List.getElem?_eq_some_iff.mp ejr).1, rfl, ejr⟩)) ⟨fun e => jb (by injection e), fun e => jh (by injection e), fun ys e => by cases e⟩
      have := wl _ _ [] (by rw [List.append_nil]; exact l1) (fun y hy => ?_) (by simp)
      · simpa using this
      · rcases List.mem_or_eq_of_mem_set hy with z | z
        · rcases List.mem_or_eq_of_mem_set z with z | z
          · exact z
          · exact z ▸ List.getElem_mem _
        · exact z ▸ hrm
    · iterate 4 (walk_at "s"; try refine ifF rfl ?_)
      walk_at "s"
      try refine ifT rfl ?_
      walk_at "s"
      refine ⟨isLD_h eh9, ?_⟩
      walk_at "s"
      refine dPopAt_h eh9 (seqIndex_nat a0 (by simp [hhs]; omega)) (d := .hdl j) (by simp [ej]) (by omega) (by omega) ?_
      iterate 2 (walk_at "s"; try refine ifF rfl ?_)
      walk_at "s"
      have := wl _ _ [] (by rw [List.append_nil]; exact lq9.erase at'.toNat) (fun y hy => List.mem_of_mem_eraseIdx hy) (by have := List.length_eraseIdx_le rows at'.toNat; omega)
      simpa using this
    · iterate 5 (walk_at "s"; try refine ifF rfl ?_)
      walk_at "s"
      try refine ifT rfl ?_
      walk_at "s"
      refine ⟨isLD_h eh9, ?_⟩
      walk_at "s"
      refine dIx_h eh9 edx ?_
      walk_at "s"
      refine dListH_h ejr ?_
      walk_at "s"
      refine dIns_h (get_app eh9) (by simp [sizeLine, hhs]; omega) t0 (by omega) ?_
      iterate 1 (walk_at "s"; try refine ifF rfl ?_)
      walk_at "s"
      have hle : h < st9.length := (List.getElem?_eq_some_iff.mp eh9).1
      have ble := x19.bag.lt
      have l1 : LQ b h (st9 ++ [Cell.lst (dIs r)]) (dHs hs) rows := lq9.keep (by simp) fun i hi _ _ => List.getElem?_append_left hi
      have l2 := l1.ins to.toNat (x := .hdl st9.length) (r := r) (.inr (.inr ⟨_, by simp, rfl, get_last⟩)) ⟨fun e => by injection e with e; omega, fun e => by injection e with e; omega, fun ys e => by cases e⟩
      refine wl _ _ _ l2 (fun y hy => ?_) (by simp; omega)
      simp only [List.mem_append, List.mem_singleton] at hy
      rcases hy with (z | rfl) | z
      · exact List.mem_of_mem_take z
      · exact hrm
      · exact List.mem_of_mem_drop z
    · iterate 6 (walk_at "s"; try refine ifF rfl ?_)
      walk_at "s"
      try refine ifT rfl ?_
      walk_at "s"
      refine ⟨isLD_h eh9, ?_⟩
      walk_at "s"
      refine ⟨isLD_h eh9, ?_⟩
      walk_at "s"
      refine dPopAt_h eh9 (seqIndex_nat a0 (by simp [hhs]; omega)) (d := .hdl j) (by simp [ej]) (by omega) (by omega) ?_
      walk_at "s"
      refine dIns_h (getElem?_set_same eh9 _) (by have := List.length_eraseIdx_le (dHs hs) at'.toNat; simp [hhs] at this; simp [sizeLine]; omega) t0 (by omega) ?_
      rw [List.set_set]
      walk_at "s"
      have l1 := (lq9.erase at'.toNat).ins to.toNat (x := .hdl j) (r := r) (.inr (.inr ⟨j, (List.getElem?_eq_some_iff.mp ejr).1, rfl, ejr⟩)) ⟨fun e => jb (by injection e), fun e => jh (by injection e), fun ys e => by cases e⟩
      have := wl _ _ [] (by rw [List.append_nil]; exact l1) (fun y hy => ?_) (by have := List.length_eraseIdx_le rows at'.toNat; simp only [List.length_append, List.length_take, List.length_drop, List.length_singleton]; omega)
      · simpa using this
      · simp only [List.mem_append, List.mem_singleton] at hy
        rcases hy with (z | rfl) | z
        · exact List.mem_of_mem_eraseIdx (List.mem_of_mem_take z)
        · exact hrm
        · exact List.mem_of_mem_eraseIdx (List.mem_of_mem_drop z)
    · iterate 7 (walk_at "s"; try refine ifF rfl ?_)
      walk_at "s"
      exact same

theorem RowsL.any {b : Nat} {st st' : Sto} {d : D} {rows : List (List Int)} (h : RowsL b st d rows) (l : st.length ≤ st'.length) (f : ∀ k, k < st.length → st'[k]? = st[k]?) : RowsL b st' d rows := h.bx ⟨l, fun k hk _ => f k hk⟩
theorem RowsL.lst {b : Nat} {st : Sto} (rows : List (List Int)) : RowsL b st (.lst (dRows rows)) rows :=
  ⟨_, .inl rfl, (fun e => by cases e), QRows.lst rows, (fun x hx => by obtain ⟨r, _, rfl⟩ := List.mem_map.mp hx; exact fun e => by cases e), (fun ys e => by cases e), fun x hx ys => by obtain ⟨r, _, rfl⟩ := List.mem_map.mp hx; exact fun e => by cases e⟩
theorem Bag.any {b n : Nat} {st st' : Sto} (h : Bag st b n) (f : ∀ k, k < st.length → st'[k]? = st[k]?) : Bag st' b n := by
  obtain ⟨cell, e, hc⟩ := h
  exact ⟨cell, (f b (List.getElem?_eq_some_iff.mp e).1).trans e, hc⟩
/-- a comprehension that copies rows to data -/
theorem list_rows {i : Nat} {ρ : DEnv} {R : List D → Sto → Prop} {rows : List (List Int)} {xs0 : List D} {st : Sto} {inv : Sto → Prop} (hinv : inv st) (hq : QRows st.length st xs0 rows) (hi : ∀ x, (ρ.set i (some x))[i]? = some (some x)) (hl : rows.length ≤ 100000)
    (k : R (dRows rows) st) : lcD inv (.nm i) mYes (mCa dList (maCons (mVar i) maNil)) ρ R xs0 [] st := by
  refine lcD_ind (fun xs acc st' => st' = st ∧ ∃ (done rest : List (List Int)), rows = done ++ rest ∧ QRows st.length st xs rest ∧ acc = dRows done) ?_ ?_ _ _ _ ⟨rfl, [], rows, rfl, hq, rfl⟩
  · rintro acc st' ⟨rfl, done, rest, h1, h2, rfl⟩
    refine ⟨hinv, ?_⟩
    have : rest = [] := by cases rest with | nil => rfl | cons _ _ => exact h2.elim
    subst this
    rw [List.append_nil] at h1
    subst h1
    exact k
  · rintro x xs acc st' K ⟨rfl, done, rest, h1, h2, rfl⟩ hK
    refine ⟨hinv, ?_⟩
    cases rest with
    | nil => exact h2.elim
    | cons r rest =>
    obtain ⟨hx, h2⟩ := h2
    have hdl : done.length + 1 ≤ rows.length := by rw [h1]; simp
    refine tnm_i rfl ?_
    walk_at "s"
    refine mCa_i (maCons_i (mVar_i (hi _) (maNil_i (dList_qq hx.drs ?_))))
    exact ⟨by simp [dRows, sizeLine]; omega, hK _ _ ⟨rfl, done ++ [r], rest, by simp [h1], h2, by simp [dRows]⟩⟩
theorem pyDs3 {a b c : D} {p q r : PyData} (h1 : pyD a = some p) (h2 : pyD b = some q) (h3 : pyD c = some r) : pyD (.lst [a, b, c]) = some (.list [p, q, r]) := by
  simp only [pyD, pyDs, h1, h2, h3]; rfl
theorem dEQ_same3 {neg : Bool} {st : Sto} {R : DQ} {x y : D} {b : Nat} {a1 a2 a3 b1 b2 b3 : D} {rows lines : List (List Int)} {as : List Int} (ex : x = .lst [a1, a2, a3]) (ey : y = .lst [b1, b2, b3]) (h1 : RowsL b st a1 rows) (h2 : RowsL b st a2 lines) (h3 : a3 = .lst (dIs as)) (g1 : RowsL b st b1 rows) (g2 : RowsL b st b2 lines) (g3 : b3 = .lst (dIs as))
    (k : R (.bl (xorB neg true)) st) : dEQ neg x y st R := by
  subst ex ey h3 g3
  have sh : SeqAt.shaped (.list [pRows rows, pRows lines, pInts as]) = true := by
    have l1 := lay_pRows rows; have l2 := lay_pRows lines; have l3 := lay_pInts as
    unfold SeqAt.shaped
    have c1 : (PyData.list [pRows rows, pRows lines, pInts as]).canLay0 = true := by simp [PyData.canLay0, PyData.canLayAll0, l1.1, l2.1, l3.1]
    have c2 : (PyData.list [pRows rows, pRows lines, pInts as]).depth ≤ 64 := by simp only [PyData.depth, PyData.depthAll]; omega
    rw [c1, decide_eq_true c2]; rfl
  have i3 : pyD (res 2 st (.lst (dIs as))) = some (pInts as) := pyD_row (b := 0) 1 (.inl rfl) (fun ys e => by cases e)
  refine ⟨3, _, _, ?_, ?_, sh, sh, ?_⟩
  · show pyD (.lst [res 2 st a1, res 2 st a2, res 2 st (.lst (dIs as))]) = _
    exact pyDs3 (pyD_rows 0 h1) (pyD_rows 0 h2) i3
  · show pyD (.lst [res 2 st b1, res 2 st b2, res 2 st (.lst (dIs as))]) = _
    exact pyDs3 (pyD_rows 0 g1) (pyD_rows 0 g2) i3
  · have e : PyData.eqv (.list [pRows rows, pRows lines, pInts as]) (.list [pRows rows, pRows lines, pInts as]) = true := by
      simp only [PyData.eqv, PyData.eqvAll, eqv_rows, eqv_pInts, decide_true, Bool.and_self]
    rw [e]; exact k
theorem dEQ_bools {neg : Bool} {st : Sto} {R : DQ} {x y : D} {bs cs : List Bool} (ex : dr st x = .lst (bs.map D.bl)) (ey : dr st y = .lst (cs.map D.bl)) (k : R (.bl (xorB neg (decide (bs = cs)))) st) : dEQ neg x y st R := by
  have rb : ∀ bs : List Bool, (bs.map D.bl).map (res 0 st) = bs.map D.bl := fun bs => by rw [List.map_map]; rfl
  have pd : ∀ bs : List Bool, pyDs (bs.map D.bl) = some (bs.map PyData.bool) := by
    intro bs
    induction bs with
    | nil => rfl
    | cons b bs ih => simp only [List.map_cons, pyDs, pyD, ih]
  have la : ∀ bs : List Bool, PyData.canLayAll0 (bs.map .bool) = true ∧ PyData.depthAll (bs.map .bool) = 0 := by
    intro bs
    induction bs with
    | nil => simp [PyData.canLayAll0, PyData.depthAll]
    | cons b bs ih => simp [PyData.canLayAll0, PyData.depthAll, PyData.canLay0, PyData.depth, ih.1, ih.2]
  have sh : ∀ bs : List Bool, SeqAt.shaped (.list (bs.map .bool)) = true := fun bs => by
    unfold SeqAt.shaped
    have := la bs
    have c1 : (PyData.list (bs.map .bool)).canLay0 = true := by simp [PyData.canLay0, this.1]
    have c2 : (PyData.list (bs.map .bool)).depth ≤ 64 := by simp [PyData.depth, this.2]
    rw [c1, decide_eq_true c2]; rfl
  have ev : ∀ bs cs : List Bool, PyData.eqvAll (bs.map .bool) (cs.map .bool) = decide (bs = cs) := by
    intro bs
    induction bs with
    | nil => intro cs; cases cs <;> simp [PyData.eqvAll]
    | cons b bs ih =>
      intro cs
      cases cs with
      | nil => simp [PyData.eqvAll]
      | cons c cs =>
        simp only [List.map_cons, PyData.eqvAll, ih cs]
        cases b <;> cases c <;> simp [PyData.eqv]
  have g : ∃ n p q, pyD (res n st x) = some p ∧ pyD (res n st y) = some q ∧ SeqAt.shaped p = true ∧ SeqAt.shaped q = true ∧ R (.bl (xorB neg (PyData.eqv p q))) st := by
    refine ⟨1, .list (bs.map .bool), .list (cs.map .bool), ?_, ?_, sh bs, sh cs, ?_⟩
    · simp only [res, ex]
      show (pyDs ((bs.map D.bl).map (res 0 st))).map PyData.list = _
      rw [rb, pd]; rfl
    · simp only [res, ey]
      show (pyDs ((cs.map D.bl).map (res 0 st))).map PyData.list = _
      rw [rb, pd]; rfl
    · rw [PyData.eqv, ev]; exact k
  unfold dEQ
  split
  · cases ex
  · cases ex
  · cases ex
  · exact g
theorem bool_eq {P : Prop} {a b : Bool} (h1 : a = true ↔ P) (h2 : b = true ↔ P) : a = b := by
  cases a <;> cases b <;> simp_all

def symS (vs : List Int) : List Int := vs ++ vs.map fun v => -v
theorem symS_ok {vs r : List Int} (hv : ∀ v ∈ vs, 0 < v ∧ v < 2 ^ 150) (h : okV vs r) : okLits (symS vs) r := by
  intro l hl
  unfold symS
  have h0 : l ≠ 0 := by
    rcases h l hl with q | q
    · have := hv _ q; omega
    · have := hv _ q; omega
  refine ⟨?_, ?_, h0⟩
  · rw [List.mem_append, List.mem_map]
    rcases h l hl with q | q
    · exact .inl q
    · exact .inr ⟨-l, q, by omega⟩
  · rw [List.mem_append, List.mem_map]
    rcases h l hl with q | q
    · exact .inr ⟨l, q, rfl⟩
    · exact .inl q
theorem symS_ng {vs : List Int} : ∀ l ∈ symS vs, -l ∈ symS vs := by
  intro l hl
  unfold symS at hl ⊢
  rw [List.mem_append, List.mem_map] at hl ⊢
  rcases hl with q | ⟨a, q, rfl⟩
  · exact .inr ⟨l, q, rfl⟩
  · exact .inl (by rw [Int.neg_neg]; exact q)

theorem cut_mid {xs : List D} {a r : Nat} (h : a + r ≤ xs.length) : cutD xs (some (a : Int)) (some ((a + r : Nat) : Int)) = (xs.drop a).take r := by
  unfold cutD
  have e1 : HT.sIx xs.length 0 (some (a : Int)) = a := by
    have q : ¬ ((a : Int) < 0) := by omega
    simp only [HT.sIx, q, if_false]; omega
  have e2 : HT.sIx xs.length xs.length (some ((a + r : Nat) : Int)) = a + r := by
    have q : ¬ (((a + r : Nat) : Int) < 0) := by omega
    simp only [HT.sIx, q, if_false]; omega
  rw [e1, e2]
  congr 1
  omega
/-- guards turned by draws -/
theorem turn_guards (c : Cl) {b n i : Nat} {ρ : DEnv} {R : List D → Sto → Prop} {gs vs : List Int} {st : Sto} (hb : Bag st b n) (h1 : ∀ x, (ρ.set i (some x))[1]? = some (some (.hdl b))) (hi : ∀ x, (ρ.set i (some x))[i]? = some (some x)) (hv : ∀ v ∈ vs, 0 < v ∧ v < 2 ^ 150) (hg : ∀ g ∈ gs, g ∈ vs) (hl : gs.length ≤ 100) (hn : n + 1000 < 2 ^ 60)
    (k : ∀ gs' st', okV vs gs' → gs'.length = gs.length → BX b st (n + 100) st' → R (dIs gs') st') :
    lcD noInv (.nm i) mYes (mOp dMul (mVar i) (mOp dIx (mLst (maCons (mC (.int 1)) (maCons (mUn dNeg (mC (.int 1))) maNil))) (mCall (sp_law_draw c) (maCons (mVar 1) (maCons (mC (.int 2)) maNil))))) ρ R (dIs gs) [] st := by
  refine lcD_ind (fun xs acc st' => ∃ (done rest done' : List Int), gs = done ++ rest ∧ xs = dIs rest ∧ acc = dIs done' ∧ done'.length = done.length ∧ okV vs done' ∧ BX b st (n + done.length) st') ?_ ?_ _ _ _ ⟨[], gs, [], rfl, rfl, rfl, rfl, (fun l hl => by cases hl), BX.refl hb⟩
  · rintro acc st' ⟨done, rest, done', q1, q2, rfl, q3, q4, q5⟩
    refine ⟨trivial, ?_⟩
    have : rest = [] := by cases rest with | nil => rfl | cons _ _ => cases q2
    subst this
    rw [List.append_nil] at q1
    subst q1
    exact k _ _ q4 q3 (q5.mono (by omega))
  · rintro x xs acc st' K ⟨done, rest, done', q1, q2, rfl, q3, q4, q5⟩ hK
    refine ⟨trivial, ?_⟩
    cases rest with
    | nil => cases q2
    | cons g rest =>
    cases q2
    have hdl : done.length + 1 ≤ gs.length := by rw [q1]; simp
    obtain ⟨g0, g1⟩ := hv g (hg g (by rw [q1]; simp))
    refine tnm_i rfl ?_
    walk_at "s"
    refine mOp_i (mVar_i (hi _) ?_)
    walk_at "s"
    refine mCall_i (maCons_i (mVar_i (h1 _) ?_))
    walk_at "s"
    refine ⟨b, _, _, rfl, q5.bag, by decide, by decide, by omega, fun r st2 r0 r1 x2 => ?_⟩
    have put : ∀ g' : Int, (g' ∈ vs ∨ -g' ∈ vs) → (dIs done').length < sizeLine ∧ K (dIs done' ++ [.int g']) st2 := fun g' hg' =>
      ⟨by simp [sizeLine]; omega, hK _ _ ⟨done ++ [g], rest, done' ++ [g'], by simp [q1], rfl, by simp [dIs], by simp [q3], okV_app q4 (fun l hl => by simp at hl; subst hl; exact hg'), (q5.trans x2).mono (by simp; omega)⟩⟩
    have hr : r = 0 ∨ r = 1 := by omega
    rcases hr with rfl | rfl
    · refine dIx_l rfl ?_
      refine dMul_i (cmx (by omega) (by omega) (by omega) (by omega)) ?_
      rw [Int.mul_one]
      exact put g (.inl (hg g (by rw [q1]; simp)))
    · refine dIx_l rfl ?_
      refine dMul_i (cmx (by omega) (by omega) (by omega) (by omega)) ?_
      exact put _ (.inr (by simpa using hg g (by rw [q1]; simp)))
theorem RowsPerm.flat {ws vs gs : List Int} {Ls : List (List (List Int))} (hv : okV ws vs) (hg : okV ws gs) (hvl : vs.length ≤ 4) (hL : Ls.length = vs.length) (h : ∀ i, i < vs.length → ∃ L, Ls[i]? = some L ∧ RowsPerm L (fullR (vs.take (vs.length - 1 - i)) gs)) : (∀ r ∈ Ls.flatten, okV ws r ∧ r.length ≤ vs.length + gs.length) ∧ Ls.flatten.length ≤ 8 * vs.length := by
  have each : ∀ L ∈ Ls, (∀ r ∈ L, okV ws r ∧ r.length ≤ vs.length + gs.length) ∧ L.length ≤ 8 := fun L hLm => by
    obtain ⟨i, hi, e⟩ := List.getElem_of_mem hLm
    obtain ⟨L', e', hp⟩ := h i (by omega)
    rw [List.getElem?_eq_getElem hi, e] at e'
    cases e'
    obtain ⟨q1, q2⟩ := hp.ok (okV_take hv) hg
    refine ⟨fun r hr => ⟨(q1 r hr).1, by rw [(q1 r hr).2]; simp; omega⟩, ?_⟩
    rw [q2]
    exact Nat.pow_le_pow_right (n := 2) (by decide) (show (vs.take (vs.length - 1 - i)).length ≤ 3 by simp; omega)
  refine ⟨fun r hr => ?_, ?_⟩
  · obtain ⟨L, h1, h2⟩ := List.mem_flatten.mp hr
    exact (each L h1).1 r h2
  · have key : ∀ Ls : List (List (List Int)), (∀ L ∈ Ls, L.length ≤ 8) → Ls.flatten.length ≤ 8 * Ls.length := by
      intro Ls
      induction Ls with
      | nil => simp
      | cons L Ls ih =>
        intro h
        have h1 := h L (by simp)
        have h2 := ih fun L' h' => h L' (by simp [h'])
        simp only [List.flatten_cons, List.length_append, List.length_cons]; omega
    rw [← hL]
    exact key Ls fun L hL => (each L hL).2

section
variable {F F' : List (List Int)} {l l' : List Int}
theorem Fol.more {G : List (List Int)} (hG : ∀ cl ∈ F, cl ∈ G) (h : Fol F l) : Fol G l := h.imp id fun q => q.mono hG fun _ z => z
theorem PaperP.more : ∀ {ls F G : List (List Int)}, (∀ cl ∈ F, cl ∈ G) → PaperP F ls → PaperP G ls
  | [], _, _, _, _ => trivial
  | l :: ls, F, G, hG, h => ⟨h.1.more hG, PaperP.more (fun cl hc => by
      rcases List.mem_append.mp hc with q | q
      · exact List.mem_append_left _ (hG cl q)
      · exact List.mem_append_right _ q) h.2⟩
theorem RefP.more {G ls : List (List Int)} {as : List Int} (hG : ∀ cl ∈ F, cl ∈ G) (h : RefP F ls as) : RefP G ls as := let ⟨ms, x, e, h1, h2⟩ := h; ⟨ms, x, e, h1, h2.more hG⟩
theorem PaperP.ins {a d : List (List Int)} (h : PaperP F (a ++ d)) (hl : Fol (F ++ a) l) : PaperP F (a ++ [l] ++ d) := by
  rw [PaperP.app] at h
  rw [List.append_assoc, PaperP.app]
  refine ⟨h.1, hl, h.2.more fun cl hc => List.mem_append_left _ hc⟩
end
theorem dr_of_L {b : Nat} {st : Sto} {d : D} {rows : List (List Int)} (h : RowsL b st d rows) : ∃ xs, dr st d = .lst xs ∧ LQ b b st xs rows := by
  obtain ⟨xs, hq, _, hqr, h4, nt, nt2⟩ := h
  refine ⟨xs, ?_, hqr, fun x hx => ⟨h4 x hx, h4 x hx, nt2 x hx⟩⟩
  rcases hq with rfl | rfl | ⟨j, _, rfl, e⟩
  · rfl
  · exact absurd rfl (nt _)
  · exact dr_hdl e
theorem LQ.dat {b h : Nat} {st : Sto} {xs : List D} {rows : List (List Int)} (q : LQ b h st xs rows) : Rowsd st.length st (.lst xs) rows := ⟨xs, .inl rfl, q.1⟩
theorem LQ.app {b h : Nat} {st : Sto} {xs ys : List D} {rows lines : List (List Int)} (q : LQ b h st xs rows) (p : LQ b h st ys lines) : LQ b h st (xs ++ ys) (rows ++ lines) := ⟨q.1.app p.1, fun x hx => (List.mem_append.mp hx).elim (q.2 x) (p.2 x)⟩
theorem LQ.take {b h : Nat} {st : Sto} {xs : List D} {rows : List (List Int)} (q : LQ b h st xs rows) (n : Nat) : LQ b h st (xs.take n) (rows.take n) := ⟨QRows.take n q.1, fun x hx => q.2 x (List.mem_of_mem_take hx)⟩
theorem LQ.drop {b h : Nat} {st : Sto} {xs : List D} {rows : List (List Int)} (q : LQ b h st xs rows) (n : Nat) : LQ b h st (xs.drop n) (rows.drop n) := ⟨QRows.drop n q.1, fun x hx => q.2 x (List.mem_of_mem_drop hx)⟩
theorem LQ.len {b h : Nat} {st : Sto} {xs : List D} {rows : List (List Int)} (q : LQ b h st xs rows) : xs.length = rows.length := q.1.len
theorem LQ.any {b h : Nat} {st st' : Sto} {xs : List D} {rows : List (List Int)} (q : LQ b h st xs rows) (l : st.length ≤ st'.length) (f : ∀ k, k < st.length → st'[k]? = st[k]?) : LQ b h st' xs rows := q.keep l fun k hk _ _ => f k hk

/-! ### papers made less -/
theorem PaperP.erase {F left : List (List Int)} {n : Nat} (h : PaperP F left) (q : PaperP (F ++ left.take n) (left.drop (n + 1))) : PaperP F (left.eraseIdx n) := by
  rw [List.eraseIdx_eq_take_drop_succ, PaperP.app]
  refine ⟨?_, q⟩
  rw [← List.take_append_drop n left, PaperP.app] at h
  exact h.1
theorem lessL_sub {F : List (List Int)} : ∀ (n : Nat) (left : List (List Int)), (lessL F n left).Sublist left
  | 0, left => List.Sublist.refl _
  | n + 1, left => by
    unfold lessL
    split
    · exact (lessL_sub n _).trans (List.eraseIdx_sublist _ _)
    · exact lessL_sub n _
theorem lessL_paper {F : List (List Int)} : ∀ (n : Nat) (left : List (List Int)), PaperP F left → PaperP F (lessL F n left)
  | 0, left, h => h
  | n + 1, left, h => by
    unfold lessL
    split
    · rename_i q; exact lessL_paper n _ (h.erase q)
    · exact lessL_paper n _ h
/-- the last stays -/
theorem lessL_last {F : List (List Int)} {x : List Int} : ∀ (n : Nat) (ms : List (List Int)), n ≤ ms.length → ∃ ms', lessL F n (ms ++ [x]) = ms' ++ [x]
  | 0, ms, _ => ⟨ms, rfl⟩
  | n + 1, ms, h => by
    unfold lessL
    split
    · have e : (ms ++ [x]).eraseIdx n = ms.eraseIdx n ++ [x] := List.eraseIdx_append_of_lt_length (by omega) _
      rw [e]
      exact lessL_last n _ (by rw [List.length_eraseIdx]; split <;> omega)
    · exact lessL_last n _ (by omega)
theorem RefP.paper {F ls : List (List Int)} {as : List Int} (h : RefP F ls as) : PaperP F ls := let ⟨_, _, _, _, q⟩ := h; q
theorem lessL_ref {F ls : List (List Int)} {as : List Int} {n : Nat} (h : RefP F ls as) (hn : n ≤ ls.length - 1) : RefP F (lessL F n ls) as := by
  have hp := lessL_paper n ls h.paper
  obtain ⟨ms, x, rfl, h1, h2⟩ := h
  obtain ⟨ms', e⟩ := lessL_last (F := F) (x := x) n ms (by simpa using hn)
  exact ⟨ms', x, e, h1, hp⟩
/-- none of these can be left out -/
def Lean (F : List (List Int)) (n : Nat) (left : List (List Int)) : Prop := ∀ i, n ≤ i → i + 1 < left.length → ¬ PaperP (F ++ left.take i) (left.drop (i + 1))
theorem lean_step {F : List (List Int)} : ∀ (n : Nat) (left : List (List Int)), n + 1 ≤ left.length → Lean F n left → Lean F 0 (lessL F n left)
  | 0, left, _, h => h
  | n + 1, left, hl, h => by
    unfold lessL
    split
    · rename_i q
      refine lean_step n _ (by rw [List.length_eraseIdx]; split <;> omega) fun i hi hil hp => ?_
      rw [List.length_eraseIdx, if_pos (by omega)] at hil
      refine h (i + 1) (by omega) (by omega) ?_
      have e1 : (left.eraseIdx n).drop (i + 1) = left.drop (i + 1 + 1) := by
        rw [List.eraseIdx_eq_take_drop_succ, List.drop_append, List.length_take, List.drop_eq_nil_of_le (by simp; omega), List.nil_append, List.drop_drop]
        congr 1; omega
      rw [← e1]
      refine hp.more fun cl hc => ?_
      rcases List.mem_append.mp hc with z | z
      · exact List.mem_append_left _ z
      · refine List.mem_append_right _ ?_
        rw [List.eraseIdx_eq_take_drop_succ, List.take_append, List.length_take] at z
        rcases List.mem_append.mp z with z | z
        · have := List.mem_of_mem_take z
          exact List.Sublist.mem this (by
            have e2 : left.take n = (left.take (i + 1)).take n := by rw [List.take_take, Nat.min_eq_left (by omega)]
            rw [e2]; exact List.take_sublist _ _)
        · have e3 : (left.drop (n + 1)).take (i - min n left.length) = (left.take (i + 1)).drop (n + 1) := by
            rw [List.drop_take]; congr 1; omega
          rw [e3] at z
          exact List.mem_of_mem_drop z
    · rename_i q
      refine lean_step n _ (by omega) fun i hi hil hp => ?_
      by_cases e : i = n
      · subst e; exact q hp
      · exact h i (by omega) hil hp
theorem lean_all {F : List (List Int)} (left : List (List Int)) : Lean F 0 (lessL F (left.length - 1) left) := by
  by_cases h : left = []
  · subst h
    intro i _ hil
    simp [lessL] at hil
  · have := List.length_pos_iff.mpr h
    exact lean_step _ _ (by omega) fun i h1 h2 => by omega
theorem lean_same {F : List (List Int)} {left : List (List Int)} (h : Lean F 0 left) : ∀ n, n + 1 ≤ left.length → lessL F n left = left
  | 0, _ => rfl
  | n + 1, hn => by
    unfold lessL
    rw [if_neg (h n (by omega) (by omega))]
    exact lean_same h n (by omega)
theorem lean_no {F : List (List Int)} {left : List (List Int)} {as : List Int} (h : Lean F 0 left) {i : Nat} (hi : i + 1 < left.length) : ¬ RefP F (left.take i ++ left.drop (i + 1)) as := fun q => h i (by omega) hi (PaperP.app.mp q.paper).2
theorem OwnR.q {s h : Nat} {st : Sto} {rows : List (List Int)} (o : OwnR s h st rows) : ∃ xs, st[h]? = some (.lst xs) ∧ QRows st.length st xs rows ∧ ∀ x ∈ xs, ∃ k, x = .hdl k ∧ s ≤ k ∧ k < h := by
  obtain ⟨hs, h1, _, h3, h4, _⟩ := o.ex
  exact ⟨_, h1, h4, fun x hx => by obtain ⟨k, hk, rfl⟩ := List.mem_map.mp hx; exact ⟨k, rfl, h3 k hk⟩⟩
theorem OwnR.rows {b s h : Nat} {st : Sto} {rows : List (List Int)} (o : OwnR s h st rows) (hb : b < s) (hh : s ≤ h) : RowsL b st (.hdl h) rows := by
  obtain ⟨xs, h1, h2, h3⟩ := o.q
  refine ⟨xs, .inr (.inr ⟨h, (List.getElem?_eq_some_iff.mp h1).1, rfl, h1⟩), (fun e => by injection e; omega), h2, fun x hx e => ?_, (fun ys e => by cases e), fun x hx ys e => ?_⟩
  · obtain ⟨k, e', q1, q2⟩ := h3 x hx
    rw [e'] at e; injection e; omega
  · obtain ⟨k, e', q1, q2⟩ := h3 x hx
    rw [e'] at e; cases e
theorem HRows.erase {st : Sto} : ∀ (i : Nat) {hs : List Nat} {rs : List (List Int)}, HRows st hs rs → HRows st (hs.eraseIdx i) (rs.eraseIdx i)
  | _, [], [], _ => trivial
  | _, [], _ :: _, h => h.elim
  | _, _ :: _, [], h => h.elim
  | 0, _ :: _, _ :: _, h => h.2
  | i + 1, _ :: _, _ :: _, h => ⟨h.1, HRows.erase i h.2⟩
theorem HRows.own {s h : Nat} {st : Sto} {hs : List Nat} {rows : List (List Int)} (e : st[h]? = some (.lst (dHs hs))) (q : HRows st hs rows) (nd : hs.Nodup) (hm : ∀ k ∈ hs, s ≤ k ∧ k < h) : OwnR s h st rows :=
  ⟨hs, e, nd, hm, (q.lq (b := h) (h := h) (fun z => by have := hm h z; omega) (fun z => by have := hm h z; omega)).1, fun i r er => q.get i er⟩

theorem PaperP.each {F L : List (List Int)} (h : ∀ r ∈ L, Fol F r) : PaperP F L := by
  have key : ∀ (L F' : List (List Int)), (∀ cl ∈ F, cl ∈ F') → (∀ r ∈ L, Fol F r) → PaperP F' L := by
    intro L
    induction L with
    | nil => intro F' _ _; trivial
    | cons l L ih => exact fun F' hF hL => ⟨(hL l (by simp)).more hF, ih _ (fun cl hc => List.mem_append_left _ (hF cl hc)) fun r hr => hL r (by simp [hr])⟩
  exact key L F (fun _ z => z) h
theorem Fol.perm {F : List (List Int)} {l l' : List Int} (p : ∀ x, x ∈ l ↔ x ∈ l') (h : Fol F l) : Fol F l' := by
  rcases h with ⟨x, h1, h2⟩ | h
  · exact .inl ⟨x, (p x).mp h1, (p _).mp h2⟩
  · exact .inr (h.mono (fun _ z => z) fun x hx => (p _).mp hx)
/-- a row of fewer variables follows from those of one more -/
theorem full_step {F : List (List Int)} {vs gs : List Int} {v : Int} (hF : ∀ r ∈ fullR (vs ++ [v]) gs, ∃ cl ∈ F, cl.Perm r) : ∀ r ∈ fullR vs gs, Fol F r := by
  intro r hr
  obtain ⟨p, hp, rfl⟩ := List.mem_map.mp hr
  have m1 : p ++ [v] ++ gs.map (fun g => -g) ∈ fullR (vs ++ [v]) gs := List.mem_map.mpr ⟨p ++ [v], by rw [allSigns_snoc]; exact List.mem_append_left _ (List.mem_map.mpr ⟨p, hp, rfl⟩), rfl⟩
  have m2 : p ++ [-v] ++ gs.map (fun g => -g) ∈ fullR (vs ++ [v]) gs := List.mem_map.mpr ⟨p ++ [-v], by rw [allSigns_snoc]; exact List.mem_append_right _ (List.mem_map.mpr ⟨p, hp, rfl⟩), rfl⟩
  obtain ⟨c1, h1, p1⟩ := hF _ m1
  obtain ⟨c2, h2, p2⟩ := hF _ m2
  have A : ∀ x, x ∈ p ++ gs.map (fun g => -g) → UP F (fun l => -l ∈ p ++ gs.map (fun g => -g)) (-x) := fun x hx => .asm (by rw [Int.neg_neg]; exact hx)
  have in1 : ∀ x, x ∈ c1 ↔ x ∈ p ++ gs.map (fun g => -g) ∨ x = v := fun x => by
    rw [p1.mem_iff]; simp only [List.mem_append, List.mem_singleton]
    constructor
    · rintro ((h | h) | h)
      · exact .inl (.inl h)
      · exact .inr h
      · exact .inl (.inr h)
    · rintro ((h | h) | h)
      · exact .inl (.inl h)
      · exact .inr h
      · exact .inl (.inr h)
  have in2 : ∀ x, x ∈ c2 ↔ x ∈ p ++ gs.map (fun g => -g) ∨ x = -v := fun x => by
    rw [p2.mem_iff]; simp only [List.mem_append, List.mem_singleton]
    constructor
    · rintro ((h | h) | h)
      · exact .inl (.inl h)
      · exact .inr h
      · exact .inl (.inr h)
    · rintro ((h | h) | h)
      · exact .inl (.inl h)
      · exact .inr h
      · exact .inl (.inr h)
  have hv : UP F (fun l => -l ∈ p ++ gs.map (fun g => -g)) v := .unit h1 ((in1 v).mpr (.inr rfl)) fun m hm hne => by
    rcases (in1 m).mp hm with q | q
    · exact A m q
    · exact absurd q hne
  refine .inr ⟨c2, h2, fun m hm => ?_⟩
  rcases (in2 m).mp hm with q | q
  · exact A m q
  · rw [q, Int.neg_neg]; exact hv
theorem RowsPerm.has {xs ys : List (List Int)} (h : RowsPerm xs ys) : (∀ r ∈ ys, ∃ cl ∈ xs, cl.Perm r) ∧ ∀ cl ∈ xs, ∃ r ∈ ys, cl.Perm r := by
  obtain ⟨zs, hp, he⟩ := h
  refine ⟨fun r hr => ?_, fun cl hc => ?_⟩
  · have key : ∀ (xs zs : List (List Int)), EachPerm xs zs → ∀ z ∈ zs, ∃ x ∈ xs, x.Perm z := by
      intro xs
      induction xs with
      | nil => intro zs h z hz; cases zs with | nil => cases hz | cons _ _ => exact h.elim
      | cons x xs ih =>
        intro zs h z hz
        cases zs with
        | nil => exact h.elim
        | cons y zs =>
        rcases List.mem_cons.mp hz with rfl | hz
        · exact ⟨x, by simp, h.1⟩
        · obtain ⟨w, q1, q2⟩ := ih zs h.2 z hz
          exact ⟨w, by simp [q1], q2⟩
    exact key xs zs he r (hp.mem_iff.mpr hr)
  · obtain ⟨z, h1, h2⟩ := he.mem cl hc
    exact ⟨z, hp.mem_iff.mp h1, h2⟩
/-- the planted paper -/
theorem planted_paper {vs gs : List Int} : ∀ (Ls : List (List (List Int))) (F : List (List Int)), (∀ r ∈ fullR (vs.take Ls.length) gs, ∃ cl ∈ F, cl.Perm r) → Ls.length ≤ vs.length → (∀ i, i < Ls.length → ∃ L, Ls[i]? = some L ∧ RowsPerm L (fullR (vs.take (Ls.length - 1 - i)) gs)) → PaperP F Ls.flatten
  | [], _, _, _, _ => trivial
  | L :: Ls, F, hF, hl, h => by
    rw [List.flatten_cons, PaperP.app]
    obtain ⟨L', e, hL⟩ := h 0 (by simp)
    simp at e; subst e
    have e1 : (L :: Ls).length - 1 - 0 = Ls.length := by simp
    rw [e1] at hL
    have hlt : Ls.length < vs.length := by simp only [List.length_cons] at hl; omega
    have et : vs.take (Ls.length + 1) = vs.take Ls.length ++ [vs[Ls.length]] := (List.take_append_getElem hlt).symm
    have step : ∀ r ∈ fullR (vs.take Ls.length) gs, Fol F r := full_step (v := vs[Ls.length]) (by rw [← et]; exact hF)
    refine ⟨PaperP.each fun r hr => ?_, planted_paper (vs := vs) (gs := gs) Ls (F ++ L) (fun r hr => ?_) (by omega) fun i hi => ?_⟩
    · obtain ⟨r', h1, h2⟩ := hL.has.2 r hr
      exact (step r' h1).perm fun x => h2.mem_iff.symm
    · obtain ⟨cl, h1, h2⟩ := hL.has.1 r hr
      exact ⟨cl, List.mem_append_right _ h1, h2⟩
    · obtain ⟨M, h1, h2⟩ := h (i + 1) (by simp; omega)
      refine ⟨M, by simpa using h1, ?_⟩
      rw [show (L :: Ls).length - 1 - (i + 1) = Ls.length - 1 - i by simp; omega] at h2
      exact h2
theorem planted_ref {vs gs : List Int} {F : List (List Int)} {Ls : List (List (List Int))} (hv : vs ≠ []) (hF : RowsPerm F (fullR vs gs)) (hl : Ls.length = vs.length) (h : ∀ i, i < vs.length → ∃ L, Ls[i]? = some L ∧ RowsPerm L (fullR (vs.take (vs.length - 1 - i)) gs)) : RefP F Ls.flatten gs := by
  have hp : PaperP F Ls.flatten := planted_paper Ls F (by rw [hl, List.take_length]; exact hF.has.1) (by omega) fun i hi => by rw [hl]; exact h i (by omega)
  have pos : 0 < vs.length := List.length_pos_iff.mpr hv
  obtain ⟨L, e, hL⟩ := h (vs.length - 1) (by omega)
  rw [show vs.length - 1 - (vs.length - 1) = 0 by omega, List.take_zero] at hL
  have hL1 : L.length = 1 := by
    obtain ⟨zs, q1, q2⟩ := hL
    rw [q2.len, q1.length_eq]; simp [fullR, allSigns]
  obtain ⟨x, rfl⟩ := List.length_eq_one_iff.mp hL1
  obtain ⟨ms, M, rfl⟩ := snoc_of (show Ls ≠ [] from fun q => by rw [q] at hl; simp at hl; omega)
  have : M = [x] := by
    have : vs.length - 1 = ms.length := by simp at hl; omega
    rw [this, List.getElem?_append_right (by omega)] at e
    simpa using e
  subst this
  refine ⟨ms.flatten, x, by simp, fun y hy => ?_, hp⟩
  obtain ⟨r, h1, h2⟩ := hL.has.2 x (by simp)
  simp [fullR, allSigns] at h1
  subst h1
  obtain ⟨g, hg, rfl⟩ := List.mem_map.mp (h2.mem_iff.mp hy)
  rw [Int.neg_neg]; exact hg
/-! ### a chain -/
def chC (N : Nat) : List (List Int) := (List.range N).map (fun i => [-((1 : Int) + (i : Nat)), (1 : Int) + (i : Nat) + 1]) ++ [[-((N : Int) + 1)]]
def chP (N : Nat) : List (List Int) := (List.range N).map fun i => [-1, (2 : Int) + (i : Nat)]
theorem chain_paper {N : Nat} {F : List (List Int)} (hF : F.Perm (chC N)) (hN : 2 ≤ N) : RefP F (chP (N - 1) ++ [[-1]]) [1] := by
  have mem : ∀ i, i < N → [-((1 : Int) + (i : Nat)), (1 : Int) + (i : Nat) + 1] ∈ F := fun i hi => hF.mem_iff.mpr (List.mem_append_left _ (List.mem_map.mpr ⟨i, List.mem_range.mpr hi, rfl⟩))
  have mlast : [-((N : Int) + 1)] ∈ F := hF.mem_iff.mpr (List.mem_append_right _ (by simp))
  have st : ∀ n, n ≤ N - 1 → PaperP F (chP n) := by
    intro n
    induction n with
    | zero => intro _; trivial
    | succ n ih =>
      intro hn
      have es : chP (n + 1) = chP n ++ [[-1, (2 : Int) + (n : Nat)]] := by unfold chP; rw [List.range_succ, List.map_append]; rfl
      rw [es, PaperP.app]
      refine ⟨ih (by omega), ?_, trivial⟩
      have a1 : UP (F ++ chP n) (fun l => -l ∈ [-1, (2 : Int) + (n : Nat)]) 1 := .asm (by simp)
      have a2 : UP (F ++ chP n) (fun l => -l ∈ [-1, (2 : Int) + (n : Nat)]) (-((2 : Int) + (n : Nat))) := .asm (by simp)
      have u : UP (F ++ chP n) (fun l => -l ∈ [-1, (2 : Int) + (n : Nat)]) ((1 : Int) + (n : Nat)) := by
        cases n with
        | zero => exact a1
        | succ n =>
          refine .unit (cl := [-1, (2 : Int) + (n : Nat)]) (List.mem_append_right _ (List.mem_map.mpr ⟨n, List.mem_range.mpr (by omega), rfl⟩)) (by simp; omega) fun m hm hne => ?_
          simp only [List.mem_cons, List.not_mem_nil, or_false] at hm
          rcases hm with rfl | rfl
          · exact a1
          · exact absurd (by omega) hne
      refine .inr ⟨_, List.mem_append_left _ (mem n (by omega)), fun m hm => ?_⟩
      simp only [List.mem_cons, List.not_mem_nil, or_false] at hm
      rcases hm with rfl | rfl
      · rw [Int.neg_neg]; exact u
      · rw [show -((1 : Int) + (n : Nat) + 1) = -((2 : Int) + (n : Nat)) by omega]; exact a2
  refine ⟨_, [-1], rfl, by simp, ?_⟩
  rw [PaperP.app]
  refine ⟨st _ (Nat.le_refl _), ?_, trivial⟩
  have a1 : UP (F ++ chP (N - 1)) (fun l => -l ∈ [(-1 : Int)]) 1 := .asm (by simp)
  have u1 : UP (F ++ chP (N - 1)) (fun l => -l ∈ [(-1 : Int)]) (N : Int) := by
    refine .unit (cl := [-1, (2 : Int) + ((N - 2 : Nat) : Nat)]) (List.mem_append_right _ (List.mem_map.mpr ⟨N - 2, List.mem_range.mpr (by omega), rfl⟩)) (by simp; omega) fun m hm hne => ?_
    simp only [List.mem_cons, List.not_mem_nil, or_false] at hm
    rcases hm with rfl | rfl
    · exact a1
    · exact absurd (by omega) hne
  have u2 : UP (F ++ chP (N - 1)) (fun l => -l ∈ [(-1 : Int)]) ((N : Int) + 1) := by
    refine .unit (List.mem_append_left _ (mem (N - 1) (by omega))) (by simp; omega) fun m hm hne => ?_
    simp only [List.mem_cons, List.not_mem_nil, or_false] at hm
    rcases hm with rfl | rfl
    · rw [Int.neg_neg, show (1 : Int) + ((N - 1 : Nat) : Int) = N by omega]; exact u1
    · exact absurd (by omega) hne
  exact .inr ⟨_, List.mem_append_left _ mlast, fun m hm => by simp at hm; subst hm; rw [Int.neg_neg]; exact u2⟩
theorem RefP.ins {F ls : List (List Int)} {as l : List Int} {n : Nat} (h : RefP F ls as) (hn : n < ls.length) (hl : Fol (F ++ ls.take n) l) : RefP F (ls.take n ++ [l] ++ ls.drop n) as := by
  have hp : PaperP F (ls.take n ++ [l] ++ ls.drop n) := PaperP.ins (by rw [List.take_append_drop]; exact h.paper) hl
  obtain ⟨ms, x, e, h1, _⟩ := h
  have dne : ls.drop n ≠ [] := fun q => by have := congrArg List.length q; simp at this; omega
  obtain ⟨dm, dx, ed⟩ := snoc_of dne
  have exx : dx = x := by
    have h3 : ls = (ls.take n ++ dm) ++ [dx] := by rw [List.append_assoc, ← ed, List.take_append_drop]
    rw [e] at h3
    exact ((List.append_inj' h3 rfl).2 |> fun q => by cases q; rfl)
  subst exx
  exact ⟨ls.take n ++ [l] ++ dm, dx, by rw [ed]; simp only [List.append_assoc], h1, hp⟩
/-! ### parts of a paper -/
theorem dEQ_row {neg : Bool} {st : Sto} {R : DQ} {b b' : Nat} {x y : D} {r s : List Int} (hx : QAt b st x (dIs r)) (hy : QAt b' st y (dIs s)) (nx : ∀ ys, x ≠ .tup ys) (ny : ∀ ys, y ≠ .tup ys) (k : R (.bl (xorB neg (decide (r = s)))) st) : dEQ neg x y st R := by
  have g : ∃ n p q, pyD (res n st x) = some p ∧ pyD (res n st y) = some q ∧ SeqAt.shaped p = true ∧ SeqAt.shaped q = true ∧ R (.bl (xorB neg (PyData.eqv p q))) st := ⟨1, pInts r, pInts s, pyD_row 0 hx nx, pyD_row 0 hy ny, shaped_ints _, shaped_ints _, by rw [eqv_pInts]; exact k⟩
  unfold dEQ
  rcases hx with rfl | rfl | ⟨j, _, rfl, e⟩ <;> rcases hy with rfl | rfl | ⟨j', _, rfl, e'⟩ <;> exact g
theorem dEQ_rows {neg : Bool} {st : Sto} {R : DQ} {b b' : Nat} {x y : D} {rs ss : List (List Int)} (hx : RowsL b st x rs) (hy : RowsL b' st y ss) (k : R (.bl (xorB neg (decide (rs = ss)))) st) : dEQ neg x y st R := by
  have g : ∃ n p q, pyD (res n st x) = some p ∧ pyD (res n st y) = some q ∧ SeqAt.shaped p = true ∧ SeqAt.shaped q = true ∧ R (.bl (xorB neg (PyData.eqv p q))) st := ⟨2, pRows rs, pRows ss, pyD_rows 0 hx, pyD_rows 0 hy, shaped_rows _, shaped_rows _, by rw [eqv_rows]; exact k⟩
  unfold dEQ
  obtain ⟨xs, hx, _⟩ := hx
  obtain ⟨ys, hy, _⟩ := hy
  rcases hx with rfl | rfl | ⟨j, _, rfl, e⟩ <;> rcases hy with rfl | rfl | ⟨j', _, rfl, e'⟩ <;> exact g

theorem sem_made_less (c : Cl) : ∀ ds st R xq, spmade_less c ds st R xq → wmade_less c (EndsOf R xq) (startD ["clauses", "lines", "assumed", "left", "at", "line"] ds) st := by
  rintro ds st R xq ⟨d, dl, da, rows, lines, as, S, rfl, hd, hdl, ha, hal, hr, hl, hS, hrl, kx, k⟩
  show wmade_less c ⟨_, _, _, _, _⟩ [some d, some dl, some da, none, none, none] st
  unfold wmade_less
  walk_at "s"
  refine mCallK_i ?_
  walk_at "s"
  refine ⟨rfl, rfl, d, dl, da, rows, lines, as, S, rfl, hd, hdl, ha, hal, hr, hl, hS, by omega, fun p st1 hp f1 l1 => ?_⟩
  walk_at "s"
  cases p with
  | false =>
    try refine ifT rfl ?_
    try walk_at "s"
    exact kx (fun q => by have := hp.mpr q; cases this) st1 l1 f1
  | true =>
  have href := hp.mp rfl
  replace k := k href
  try refine ifF rfl ?_
  walk_at "s"
  obtain ⟨xs, hx, hxr⟩ := hd
  obtain ⟨ys, hy, hyr⟩ := hdl
  have hy1 := hy.fr l1 f1
  refine dIt_q hy1 fun inv hinv => ?_
  refine copy_rows (i := 5) (ρ := [some d, some dl, some da, none, none, none]) hinv (QRows.fr l1 f1 hyr) (by intro _; rfl) (by omega) fun st2 hR hlen f2 => ?_
  walk_at "s"
  have hhs : (hsOf st1.length lines.length).length = lines.length := by simp [hsOf]
  have hm0 : ∀ i ∈ hsOf st1.length lines.length, st1.length ≤ i ∧ i < st2.length := fun i hi => by have := hsOf_mem.mp hi; omega
  have nd0 := hsOf_nodup st1.length lines.length
  generalize hsOf st1.length lines.length = hs at hR hhs hm0 nd0
  generalize hh : st2.length = h at hm0
  have e3 : (st2 ++ [Cell.lst (dHs hs)])[h]? = some (.lst (dHs hs)) := by rw [← hh]; exact get_last
  have hR3 : HRows (st2 ++ [Cell.lst (dHs hs)]) hs lines := hR.keep fun i hi => List.getElem?_append_left (by have := hm0 i hi; omega)
  have f3 : ∀ i, i < st.length → (st2 ++ [Cell.lst (dHs hs)])[i]? = st[i]? := fun i hi => (List.getElem?_append_left (by omega)).trans ((f2 i (by omega)).trans (f1 i hi))
  have l3 : h < (st2 ++ [Cell.lst (dHs hs)]).length := by simp; omega
  generalize st2 ++ [Cell.lst (dHs hs)] = st3 at e3 hR3 f3 l3
  have lpos : 0 < lines.length := by
    obtain ⟨ms, x, e, _⟩ := href
    rw [e]; simp
  refine dLen_h e3 ?_
  walk_at "s"
  refine ⟨rfl, ⟨by simp; omega, by simp [hhs]; omega, by omega, by omega⟩, ?_⟩
  have ecnt : (((dHs hs).length : Int) - 2 - -1).toNat = lines.length - 1 := by simp [hhs]; omega
  have efst : ((dHs hs).length : Int) - 2 = ((lines.length - 1 : Nat) : Int) - 1 := by simp [hhs]; omega
  rw [ecnt, efst]
  refine forD_ind (fun zs ρ st' => ∃ (n : Nat) (left : List (List Int)) (hs : List Nat) (d4 : Option D), zs = rngDn ((n : Int) - 1) n ∧ n + 1 ≤ left.length ∧ left.length ≤ lines.length ∧ ρ = [some d, some dl, some da, some (.hdl h), d4, none] ∧ st'[h]? = some (.lst (dHs hs)) ∧ HRows st' hs left ∧ hs.Nodup ∧ (∀ k ∈ hs, st1.length ≤ k ∧ k < h) ∧ (∀ r ∈ left, r ∈ lines) ∧ lessL rows n left = lessL rows (lines.length - 1) lines ∧ h < st'.length ∧ ∀ i, i < st.length → st'[i]? = st[i]?) ?_ ?_ _ _ _ ⟨lines.length - 1, lines, hs, _, rfl, by omega, Nat.le_refl _, rfl, e3, hR3, nd0, hm0, fun _ z => z, rfl, l3, f3⟩
  · rintro ρ st4 ⟨n, left, hs, d4, hx0, hn1, hn2, rfl, e4, hR4, nd4, hm4, hsub, hless, l4, f4⟩
    refine ⟨trivial, ?_⟩
    have : n = 0 := by
      have := congrArg List.length hx0
      simp [rngDn] at this; omega
    subst this
    walk_at "s"
    have e0 : left = lessL rows (lines.length - 1) lines := hless
    rw [← e0] at k
    exact k h st4 (by omega) (hR4.own e4 nd4 fun i hi => by have := hm4 i hi; omega) f4
  · rintro z zs ρ st4 K ⟨n, left, hs, d4, hx0, hn1, hn2, rfl, e4, hR4, nd4, hm4, hsub, hless, l4, f4⟩ hK
    refine ⟨trivial, ?_⟩
    cases n with
    | zero => cases hx0
    | succ n =>
    rw [rngDn_cons] at hx0
    cases hx0
    have hz : (((n + 1 : Nat) : Int) - 1) = (n : Int) := by omega
    rw [hz]
    have hlen4 : (dHs hs).length = left.length := by simp [hR4.len]
    have lq4 : LQ h h st4 (dHs hs) left := hR4.lq (fun q => by have := hm4 h q; omega) (fun q => by have := hm4 h q; omega)
    have hx4 := hx.fr (b' := st4.length) (by omega) f4
    have hxr4 := QRows.fr (b' := st4.length) (by omega) f4 hxr
    walk_at "s"
    refine dList_qq hx4.drs ?_
    walk_at "s"
    simp only [dSl, dr_hdl e4]
    rw [cut_take (by omega)]
    refine dAdd_l rfl rfl (by simp only [List.length_take, sizeLine]; rw [hxr.len]; omega) ?_
    walk_at "s"
    simp only [dSl, dr_hdl e4]
    have cd := cut_drop (xs := dHs hs) (n := n + 1) (by omega)
    rw [show ((n + 1 : Nat) : Int) = (n : Int) + 1 by omega] at cd
    rw [cd]
    walk_at "s"
    have okl : ∀ r ∈ left, okLits S r ∧ r.length < 1000000 := fun r hr' => hl r (hsub r hr')
    refine ⟨_, _, rows ++ left.take n, left.drop (n + 1), S, rfl, ⟨_, .inl rfl, hxr4.app (QRows.take n lq4.1)⟩, ⟨_, .inl rfl, QRows.drop (n + 1) lq4.1⟩, fun r hr' => ?_, fun r hr' => okl r (List.mem_of_mem_drop hr'), hS, by simp; omega, fun p st5 hp5 f5 l5 => ?_⟩
    · rcases List.mem_append.mp hr' with q | q
      · exact hr r q
      · exact (okl r (List.mem_of_mem_take q)).1
    walk_at "s"
    have e5 : st5[h]? = some (.lst (dHs hs)) := (f5 h l4).trans e4
    have hR5 : HRows st5 hs left := hR4.keep fun i hi => f5 i (by have := hm4 i hi; omega)
    have f05 : ∀ i, i < st.length → st5[i]? = st[i]? := fun i hi => (f5 i (by omega)).trans (f4 i hi)
    cases p with
    | false =>
      have np : ¬ PaperP (rows ++ left.take n) (left.drop (n + 1)) := fun q => by have := hp5.mpr q; cases this
      try refine ifF rfl ?_
      walk_at "s"
      refine hK _ _ ⟨n, left, hs, _, by congr 1; omega, by omega, hn2, rfl, e5, hR5, nd4, hm4, hsub, ?_, by omega, f05⟩
      rw [← hless, lessL, if_neg np]
    | true =>
      have yp : PaperP (rows ++ left.take n) (left.drop (n + 1)) := hp5.mp rfl
      try refine ifT rfl ?_
      walk_at "s"
      refine ⟨isLD_h e5, ?_⟩
      walk_at "s"
      obtain ⟨j, ej, _⟩ := hR5.get n (r := left[n]) (List.getElem?_eq_getElem (by omega))
      refine dPopAt_h e5 (seqIndex_nat (by omega) (by omega)) (d := .hdl j) (by rw [Int.toNat_natCast]; simp [ej]) (by omega) (by omega) ?_
      rw [Int.toNat_natCast]
      have ed : (dHs hs).eraseIdx n = dHs (hs.eraseIdx n) := by simp only [dHs, List.eraseIdx_eq_take_drop_succ, List.map_append, List.map_take, List.map_drop]
      rw [ed]
      refine hK _ _ ⟨n, left.eraseIdx n, hs.eraseIdx n, _, by congr 1; omega, by rw [List.length_eraseIdx, if_pos (by omega)]; omega, by have := List.length_eraseIdx_le left n; omega, rfl, getElem?_set_same e5 _, (hR5.erase n).keep fun i hi => List.getElem?_set_ne (by have := hm4 i (List.mem_of_mem_eraseIdx hi); omega), nd4.sublist (List.eraseIdx_sublist _ _), fun i hi => hm4 i (List.mem_of_mem_eraseIdx hi), fun r hr' => hsub r (List.mem_of_mem_eraseIdx hr'), ?_, by simp; omega, fun i hi => ?_⟩
      · rw [← hless, lessL, if_pos yp]
      · rw [List.getElem?_set_ne (by omega)]; exact f05 i hi

theorem ref_erase {F left : List (List Int)} {as : List Int} {n : Nat} (h : RefP F left as) (hn : n + 1 < left.length) : RefP F (left.take n ++ left.drop (n + 1)) as ↔ PaperP (F ++ left.take n) (left.drop (n + 1)) := by
  refine ⟨fun q => (PaperP.app.mp q.paper).2, fun q => ?_⟩
  have hp := h.paper.erase q
  obtain ⟨ms, x, rfl, h1, _⟩ := h
  have e : (ms ++ [x]).eraseIdx n = ms.eraseIdx n ++ [x] := List.eraseIdx_append_of_lt_length (by simp at hn; omega) _
  rw [← List.eraseIdx_eq_take_drop_succ]
  exact ⟨_, x, e, h1, hp⟩
theorem dRows_out (L : List (List Int)) (n : Nat) : (dRows L).eraseIdx n = dRows (L.eraseIdx n) := by
  simp only [dRows, List.eraseIdx_eq_take_drop_succ, List.map_append, List.map_take, List.map_drop]
theorem sem_law_less (c : Cl) : ∀ ds st R xq, sp_law_less c ds st R xq → w_law_less c (EndsOf R xq) (startD ["_law_clauses", "_law_lines", "_law_some", "_law_left", "_law_at", "_law_line"] ds) st := by
  rintro ds st R xq ⟨d, dl, da, rows, lines, as, S, rfl, hd, hdl, ha, hal, hr, hl, hrl, hS, href, k⟩
  show w_law_less c ⟨_, _, _, _, _⟩ [some d, some dl, some da, none, none, none] st
  unfold w_law_less
  obtain ⟨xs, hx, hxr⟩ := hd
  obtain ⟨ys, hy, hyr⟩ := hdl
  walk_at "s"
  refine dIt_q hy fun inv hinv => ?_
  refine list_rows (i := 5) (ρ := [some d, some dl, some da, none, none, none]) (hinv _ fun _ _ => rfl) hyr (by intro _; rfl) (by omega) ?_
  walk_at "s"
  generalize hh : st.length = h
  have e3 : (st ++ [Cell.lst (dRows lines)])[h]? = some (.lst (dRows lines)) := by rw [← hh]; exact get_last
  have f3 : ∀ i, i < st.length → (st ++ [Cell.lst (dRows lines)])[i]? = st[i]? := fun i hi => List.getElem?_append_left hi
  have l3 : h < (st ++ [Cell.lst (dRows lines)]).length := by simp; omega
  generalize st ++ [Cell.lst (dRows lines)] = st3 at e3 f3 l3
  have lpos : 0 < lines.length := by
    obtain ⟨ms, x, e, _⟩ := href
    rw [e]; simp
  have lr : ∀ L : List (List Int), (dRows L).length = L.length := fun L => by simp [dRows]
  refine dLen_h e3 ?_
  walk_at "s"
  refine ⟨rfl, ⟨by simp; omega, by simp [lr]; omega, by omega, by omega⟩, ?_⟩
  have ecnt : (((dRows lines).length : Int) - 2 - -1).toNat = lines.length - 1 := by simp [lr]; omega
  have efst : ((dRows lines).length : Int) - 2 = ((lines.length - 1 : Nat) : Int) - 1 := by simp [lr]; omega
  rw [ecnt, efst]
  refine forD_ind (fun zs ρ st' => ∃ (n : Nat) (left : List (List Int)) (d4 : Option D), zs = rngDn ((n : Int) - 1) n ∧ n + 1 ≤ left.length ∧ left.length ≤ lines.length ∧ ρ = [some d, some dl, some da, some (.hdl h), d4, none] ∧ st'[h]? = some (.lst (dRows left)) ∧ (∀ r ∈ left, r ∈ lines) ∧ RefP rows left as ∧ lessL rows n left = lessL rows (lines.length - 1) lines ∧ h < st'.length ∧ (∀ i, i < st.length → st'[i]? = st[i]?)) ?_ ?_ _ _ _ ⟨lines.length - 1, lines, _, rfl, by omega, Nat.le_refl _, rfl, e3, fun r h => h, href, rfl, l3, f3⟩
  · rintro ρ st4 ⟨n, left, d4, hx0, hn1, hn2, rfl, e4, hsub, ref4, hless, l4, f4⟩
    refine ⟨trivial, ?_⟩
    have : n = 0 := by
      have := congrArg List.length hx0
      simp [rngDn] at this; omega
    subst this
    walk_at "s"
    have e0 : left = lessL rows (lines.length - 1) lines := hless
    rw [e0] at e4
    exact k h st4 (by omega) e4 f4
  · rintro z zs ρ st4 K ⟨n, left, d4, hx0, hn1, hn2, rfl, e4, hsub, ref4, hless, l4, f4⟩ hK
    refine ⟨trivial, ?_⟩
    cases n with
    | zero => cases hx0
    | succ n =>
    rw [rngDn_cons] at hx0
    cases hx0
    have hz : (((n + 1 : Nat) : Int) - 1) = (n : Int) := by omega
    rw [hz]
    have hx4 := hx.fr (b' := st4.length) (by omega) f4
    have hxr4 := QRows.fr (b' := st4.length) (by omega) f4 hxr
    have ha4 := ha.fr (b' := st4.length) (by omega) f4
    walk_at "s"
    simp only [dSl, dr_hdl e4]
    rw [cut_take (by rw [lr]; omega)]
    walk_at "s"
    simp only [dSl, dr_hdl e4]
    have cd := cut_drop (xs := dRows left) (n := n + 1) (by rw [lr]; omega)
    rw [show ((n + 1 : Nat) : Int) = (n : Int) + 1 by omega] at cd
    rw [cd]
    refine dAdd_l rfl rfl (by simp only [List.length_take, List.length_drop, lr, sizeLine]; omega) ?_
    rw [show (dRows left).take n ++ (dRows left).drop (n + 1) = dRows (left.take n ++ left.drop (n + 1)) by simp [dRows, List.map_take, List.map_drop]]
    walk_at "s"
    refine ⟨_, _, _, rows, left.take n ++ left.drop (n + 1), as, S, rfl, ⟨_, hx4, hxr4⟩, ⟨_, .inl rfl, QRows.lst _⟩, ha4, ⟨0, RowsL.lst _⟩, by omega, hr, fun r hr' => ?_, by simp; omega, hS, fun p st5 hp5 f5 l5 => ?_⟩
    · rcases List.mem_append.mp hr' with q | q
      · exact hl r (hsub r (List.mem_of_mem_take q))
      · exact hl r (hsub r (List.mem_of_mem_drop q))
    walk_at "s"
    have e5 : st5[h]? = some (.lst (dRows left)) := (f5 h l4).trans e4
    have f05 : ∀ i, i < st.length → st5[i]? = st[i]? := fun i hi => (f5 i (by omega)).trans (f4 i hi)
    rw [ref_erase ref4 (by omega)] at hp5
    cases p with
    | false =>
      have np : ¬ PaperP (rows ++ left.take n) (left.drop (n + 1)) := fun q => by have := hp5.mpr q; cases this
      try refine ifF rfl ?_
      walk_at "s"
      refine hK _ _ ⟨n, left, _, by congr 1; omega, by omega, hn2, rfl, e5, hsub, ref4, ?_, by omega, f05⟩
      rw [← hless, lessL, if_neg np]
    | true =>
      have yp : PaperP (rows ++ left.take n) (left.drop (n + 1)) := hp5.mp rfl
      try refine ifT rfl ?_
      walk_at "s"
      refine ⟨isLD_h e5, ?_⟩
      walk_at "s"
      refine dPopAt_h e5 (seqIndex_nat (by omega) (by rw [lr]; omega)) (d := .lst (dIs left[n])) (by rw [Int.toNat_natCast]; simp only [dRows, List.getElem?_map, List.getElem?_eq_getElem (show n < left.length by omega), Option.map]) (by omega) (by omega) ?_
      rw [Int.toNat_natCast, dRows_out]
      have re := (ref_erase ref4 (n := n) (by omega)).mpr yp
      rw [← List.eraseIdx_eq_take_drop_succ] at re
      refine hK _ _ ⟨n, left.eraseIdx n, _, by congr 1; omega, by rw [List.length_eraseIdx, if_pos (by omega)]; omega, by have := List.length_eraseIdx_le left n; omega, rfl, getElem?_set_same e5 _, fun r hr' => hsub r (List.mem_of_mem_eraseIdx hr'), re, ?_, by simp; omega, fun i hi => ?_⟩
      · rw [← hless, lessL, if_pos yp]
      · rw [List.getElem?_set_ne (by omega)]; exact f05 i hi

theorem sTry_i {nx bk ct : DEnv → Sto → Prop} {rt : DQ} {xq : XQ} {ρ : DEnv} {st : Sto} {l i j : Nat} {cs : List Addr} {w : ME} (h : ∀ (R' : DQ) (X' : XQ), (∀ d st1, nx (ρ.set l (some d)) st1 → R' d st1) → (∀ C st1, C ∈ cs → nx ((ρ.set j (some (.exc C))).set i none) st1 → X' C st1) → w ρ st R' X') : sTry l i j cs w ⟨nx, rt, bk, ct, xq⟩ ρ st :=
  h _ _ (fun _ _ q => q) fun _ _ a b => ⟨a, b⟩
theorem dIsX_i {u : V} {tb : List (Addr × Bool)} {C : Addr} {b : Bool} {st : Sto} {R : DQ} (e : (C, b) ∈ tb) (h : R (.bl b) st) : dIsX u tb [.exc C, .raw u] st R := ⟨b, e, rfl, h⟩
theorem dIsXT_i {us : List Addr} {vs : List D} {tb : List (Addr × Bool)} {C : Addr} {b : Bool} {st : Sto} {R : DQ} (e : (C, b) ∈ tb) (hv : vs = us.map (fun a => .raw (.ref a))) (h : R (.bl b) st) : dIsXT us tb [.exc C, .tup vs] st R := ⟨b, e, hv, h⟩
theorem sem_law_asked (c : Cl) : ∀ ds st R xq, sp_law_asked c ds st R xq → w_law_asked c (EndsOf R xq) (startD ["_law_clauses", "_law_lines", "_law_some", "_law_found", "_law_caught", "e", "_law_others"] ds) st := by
  rintro ds st R xq ⟨d, dl, da, rows, lines, as, S, rfl, hd, hdl, ha, hal, hr, hl, hS, hrl, kx, k⟩
  show w_law_asked c ⟨_, _, _, _, _⟩ [some d, some dl, some da, none, none, none, none] st
  unfold w_law_asked
  walk_at "s"
  refine sTry_i fun R' X' hR hX => ?_
  have H : ∀ da', QAt st.length st da' (dIs as) → spmade_less c [d, dl, da'] st R' X' := fun da' hq => by
    refine ⟨d, dl, da', rows, lines, as, S, rfl, hd, hdl, hq, hal, hr, hl, hS, hrl, fun q st' l f => hX _ _ (List.mem_singleton.mpr rfl) ?_, fun q h st' h1 o f => hR _ _ ?_⟩
    · dsimp only [List.set_cons_zero, List.set_cons_succ, List.set_nil]
      walk_at "s"
      try refine ifF rfl ?_
      walk_at "s"
      refine dIsXT_i (b := false) (by simp) rfl ?_
      walk_at "s"
      refine dIsXT_i (b := false) (by simp) rfl ?_
      walk_at "s"
      refine dIsX_i (b := true) (by simp) ?_
      walk_at "s"
      refine dIsX_i (b := true) (by simp) ?_
      walk_at "s"
      exact kx q st' l f
    · dsimp only [List.set_cons_zero, List.set_cons_succ, List.set_nil]
      walk_at "s"
      try refine ifT rfl ?_
      walk_at "s"
      exact k q h st' h1 o f
  refine mIf_i ?_
  walk_at "s"
  refine dLen_q (xs := dIs as) (by rcases ha with rfl | rfl <;> simp [dr]) ?_
  walk_at "s"
  refine ifB (fun _ => ?_) (fun h0 => ?_)
  · refine mCallK_i ?_
    walk_at "s"
    exact ⟨rfl, rfl, H da (by rcases ha with rfl | rfl; all_goals first | exact .inl rfl | exact .inr (.inl rfl))⟩
  · have : as = [] := by
      cases as with
      | nil => rfl
      | cons a as => simp [dIs] at h0
    subst this
    refine mCallD_i ?_
    walk_at "s"
    exact H (.tup []) (.inr (.inl rfl))

theorem dClr_h {j : Nat} {xs : List D} {st : Sto} {R : DQ} (e : st[j]? = some (.lst xs)) (h : R .non (st.set j (.lst []))) : dClr (.hdl j) [] st R := by
  unfold dClr; rw [onH_hdl e]; exact h
theorem OwnR.any {s h : Nat} {st st' : Sto} {rows : List (List Int)} (o : OwnR s h st rows) (l : st.length ≤ st'.length) (f : ∀ k, k < st.length → st'[k]? = st[k]?) : OwnR s h st' rows := by
  obtain ⟨hs, h1, h2, h3, h4, h5⟩ := o.ex
  have hl := (List.getElem?_eq_some_iff.mp h1).1
  refine ⟨hs, (f h hl).trans h1, h2, h3, QRows.fr l f h4, fun i r e => ?_⟩
  obtain ⟨k, q1, q2⟩ := h5 i r e
  exact ⟨k, q1, (f k (List.getElem?_eq_some_iff.mp q2).1).trans q2⟩
/-- 7 is put to each row of a list of handles -/
theorem sevens {b h s : Nat} {nx bk ct : DEnv → Sto → Prop} {rt : DQ} {xq : XQ} {st0 st : Sto} {hs : List Nat} {d0 d1 d2 d3 d4 d5 d6 d7 d8 d9 d10 d11 d12 d13 d14 d15 d16 d17 d18 d19 d20 : Option D} (eh : st[h]? = some (.lst (hs.map D.hdl))) (hm : ∀ k ∈ hs, s ≤ k ∧ k < h) (hb : b < s) (h0 : st0.length ≤ s)
    (hr : ∀ k ∈ hs, ∃ ys : List D, st[k]? = some (.lst ys) ∧ ys.length ≤ 100000) (hl : hs.length ≤ 100000) (x : ExB b st0 st)
    (k : ∀ (d15 : Option D) (st' : Sto), st'[h]? = some (.lst (hs.map D.hdl)) → ExB b st0 st' → st'[b]? = st[b]? → nx [d0, d1, d2, d3, d4, d5, d6, d7, d8, d9, d10, d11, d12, d13, d14, d15, d16, d17, d18, d19, d20] st') :
    forD (fun st' => st'[h]? = some (Cell.lst (hs.map D.hdl))) (gNm 15) (sEx (mMe dApp (mVar 15) (maCons (mC (.int 7)) maNil))) ⟨nx, rt, bk, ct, xq⟩ (hs.map D.hdl) [d0, d1, d2, d3, d4, d5, d6, d7, d8, d9, d10, d11, d12, d13, d14, d15, d16, d17, d18, d19, d20] st := by
  refine forD_ind (fun zs ρ st' => ∃ (done rest : List Nat) (d15 : Option D), hs = done ++ rest ∧ zs = rest.map D.hdl ∧ ρ = [d0, d1, d2, d3, d4, d5, d6, d7, d8, d9, d10, d11, d12, d13, d14, d15, d16, d17, d18, d19, d20] ∧ st'[h]? = some (.lst (hs.map D.hdl)) ∧ ExB b st0 st' ∧ st'[b]? = st[b]? ∧ ∀ k ∈ hs, ∃ ys : List D, st'[k]? = some (.lst ys) ∧ ys.length ≤ 100000 + done.length) ?_ ?_ _ _ _ ⟨[], hs, _, rfl, rfl, rfl, eh, x, rfl, by simpa using hr⟩
  · rintro ρ st' ⟨done, rest, d15, h1, h2, rfl, e', x', eb, _⟩
    exact ⟨e', k _ st' e' x' eb⟩
  · rintro z zs ρ st' K ⟨done, rest, d15, h1, h2, rfl, e', x', eb, r'⟩ hK
    refine ⟨e', ?_⟩
    cases rest with
    | nil => cases h2
    | cons q rest =>
    cases h2
    have hq : q ∈ hs := by rw [h1]; simp
    obtain ⟨ys, ey, yl⟩ := r' q hq
    obtain ⟨m1, m2⟩ := hm q hq
    have dl : done.length ≤ hs.length := by rw [h1]; simp
    walk_at "s"
    refine ⟨isLD_h ey, ?_⟩
    walk_at "s"
    refine dApp_h ey (by simp only [sizeLine]; omega) ?_
    refine hK _ _ ⟨done ++ [q], rest, _, by simp [h1], rfl, rfl, by rw [List.getElem?_set_ne (by omega)]; exact e', ⟨by simpa using x'.len, fun i hi hib => by rw [List.getElem?_set_ne (by omega)]; exact x'.get i hi hib⟩, by rw [List.getElem?_set_ne (by omega)]; exact eb, fun j hj => ?_⟩
    by_cases e : q = j
    · subst e
      exact ⟨_, getElem?_set_same ey _, by simp; omega⟩
    · obtain ⟨zs', ez, zl⟩ := r' j hj
      exact ⟨zs', by rw [List.getElem?_set_ne e]; exact ez, by simp; omega⟩
/-- a turn's end -/
theorem turn_end (c : Cl) {b n : Nat} {st0 st : Sto} {R : DQ} {xq : XQ} {nx bk ct : DEnv → Sto → Prop} {dc dl : D} {rows lines : List (List Int)} {as S : List Int} {d0 d2 d3 d4 d5 d6 d7 d8 d11 d14 d15 d16 d17 d18 : Option D} {d19 d20 : D} (hb : Bag st b n) (b0 : b < st0.length) (x : ExB b st0 st) (hL : RowsL b st0 dc rows) (hM : RowsL b st0 dl lines) (hal : as.length ≤ 1000) (okr : ∀ r ∈ rows, r.length ≤ 4000 ∧ okLits S r) (okl : ∀ r ∈ lines, r.length ≤ 4000 ∧ okLits S r) (hS : okS S) (hrl : rows.length + lines.length < 50000)
    (hc : (¬ RefP rows lines as ∧ d19 = .non ∧ d20 = .bl true) ∨ (RefP rows lines as ∧ ∃ h s, d19 = .hdl h ∧ d20 = .bl false ∧ st0.length ≤ s ∧ s ≤ h ∧ OwnR s h st (lessL rows (lines.length - 1) lines)))
    (k : ∀ st', R (.bl true) st') (hnx : ∀ (d15 : Option D) (d19 d20 : D) (st' : Sto), Bag st' b n → ExB b st0 st' → nx [d0, some (.hdl b), d2, d3, d4, d5, d6, d7, d8, some (.lst (dIs as)), some (.lst [.lst (dRows rows), .lst (dRows lines), .lst (dIs as)]), d11, some dc, some dl, d14, d15, d16, d17, d18, some d19, some d20] st') :
    (sSeq (sIf (mTest (mOp (dEQ true) (mVar 10) (mLst (maCons (mVar 12) (maCons (mVar 13) (maCons (mVar 9) maNil))))))
  (sRt (mC (.bl false)))
  sNx)
  (sIf (mNot (mTest (mCall (sp_law_refutes c) (maCons (mVar 12) (maCons (mVar 13) (maCons (mVar 9) maNil))))))
  (sIf (mOr (mTest (mOp dNotN (mVar 19) (mC .non))) (mNot (mTest (mVar 20))))
  (sRt (mC (.bl false)))
  sNx)
  (sSeq (sIf (mOr (mNot (mTest (mCa dIsi (maCons (mVar 19) (maCons (mC (.raw (.ty "list"))) maNil))))) (mTest (mOp (dEQ true) (mVar 19) (mCall (sp_law_less c) (maCons (mVar 12) (maCons (mVar 13) (maCons (mVar 9) maNil)))))))
  (sRt (mC (.bl false)))
  sNx)
  (sSeq (sFor (miSeq (mVar 19)) (gNm 15)
  (sEx (mMe dApp (mVar 15) (maCons (mC (.int 7)) maNil))))
  (sEx (mMe0 dClr (mVar 19))))))) ⟨nx, R, bk, ct, xq⟩ [d0, some (.hdl b), d2, d3, d4, d5, d6, d7, d8, some (.lst (dIs as)), some (.lst [.lst (dRows rows), .lst (dRows lines), .lst (dIs as)]), d11, some dc, some dl, d14, d15, d16, d17, d18, some d19, some d20] st := by
  have blt := hb.lt
  have L := hL.bx x
  have M := hM.bx x
  walk_at "s"
  refine dEQ_same3 (b := b) rfl rfl (.lst rows) (.lst lines) rfl L M rfl ?_
  walk_at "s"
  try refine ifF (by simp) ?_
  walk_at "s"
  refine ⟨_, _, _, rows, lines, as, S, rfl, L.rd, M.rd, .inl rfl, ⟨b, M⟩, by omega, okr, okl, by omega, hS.1, fun p st1 hp f1 l1 => ?_⟩
  have x1 : ExB b st0 st1 := ⟨by have := x.len; omega, fun i hi hib => (f1 i (by have := x.len; omega)).trans (x.get i hi hib)⟩
  have b1 : Bag st1 b n := hb.any f1
  walk_at "s"
  rcases hc with ⟨nr, rfl, rfl⟩ | ⟨yr, h, s, rfl, rfl, s0, s2, own⟩
  · have : p = false := by
      cases p with
      | false => rfl
      | true => exact absurd (hp.mp rfl) nr
    subst this
    try refine ifT rfl ?_
    walk_at "s"
    try refine ifF rfl ?_
    walk_at "s"
    exact hnx _ _ _ st1 b1 x1
  · have : p = true := hp.mpr yr
    subst this
    try refine ifF rfl ?_
    walk_at "s"
    have o1 := own.any l1 f1
    obtain ⟨xs1, e1, _, _⟩ := o1.q
    refine ⟨"list", true, by simp only [tyD, e1], rfl, ?_⟩
    walk_at "s"
    try refine ifF rfl ?_
    walk_at "s"
    have L1 := hL.bx x1
    have M1 := hM.bx x1
    refine ⟨_, _, _, rows, lines, as, S, rfl, L1.rd, M1.rd, .inl rfl, by omega, okr, okl, by omega, hS.1, yr, fun h2 st2 g2 e2 f2 => ?_⟩
    walk_at "s"
    have hlt := (List.getElem?_eq_some_iff.mp e1).1
    have l2 : st1.length ≤ st2.length := by have := (List.getElem?_eq_some_iff.mp e2).1; omega
    have o2 := o1.any l2 f2
    have x2 : ExB b st0 st2 := ⟨by have := x1.len; omega, fun i hi hib => (f2 i (by have := x1.len; omega)).trans (x1.get i hi hib)⟩
    refine dEQ_rows (o2.rows (b := b) (by omega) s2) (RowsL.hdl (b := b) e2 (by omega)) ?_
    walk_at "s"
    try refine ifF (by simp) ?_
    walk_at "s"
    obtain ⟨hs, eh, nd, hm, hq, hr⟩ := o2.ex
    have hlen : hs.length = (lessL rows (lines.length - 1) lines).length := by have := hq.len; simpa using this
    have sub := lessL_sub (F := rows) (lines.length - 1) lines
    have sl := sub.length_le
    refine dIt_h eh ?_
    refine sevens (b := b) (st0 := st0) eh hm (by omega) s0 (fun q hq' => ?_) (by omega) x2 fun d15 st3 e3 x3 eb => ?_
    · obtain ⟨i, hi, ei⟩ := List.getElem_of_mem hq'
      have hi' : i < (lessL rows (lines.length - 1) lines).length := by omega
      obtain ⟨q2, e1', e2'⟩ := hr i _ (List.getElem?_eq_getElem hi')
      rw [List.getElem?_eq_getElem hi, ei] at e1'
      cases e1'
      exact ⟨_, e2', by have := (okl _ (sub.mem (List.getElem_mem hi'))).1; simp; omega⟩
    walk_at "s"
    refine ⟨isLD_h e3, dClr_h e3 ?_⟩
    have b2 : Bag st2 b n := b1.any f2
    refine hnx _ _ _ _ ?_ ⟨by simpa using x3.len, fun i hi hib => by rw [List.getElem?_set_ne (by omega)]; exact x3.get i hi hib⟩
    obtain ⟨cell, ec, hc⟩ := b2
    exact ⟨cell, by rw [List.getElem?_set_ne (by omega)]; exact eb.trans ec, hc⟩

/-- three turns -/
theorem turns (c : Cl) {b n : Nat} {st : Sto} {R : DQ} {xq : XQ} {nx bk ct : DEnv → Sto → Prop} {dc dl : D} {rows lines : List (List Int)} {as S : List Int} {d0 d2 d3 d4 d5 d6 d7 d8 d10 d11 d14 d15 d16 d17 d18 d19 d20 : Option D} (hb : Bag st b n) (hL : RowsL b st dc rows) (hM : RowsL b st dl lines) (hal : as.length ≤ 1000) (okr : ∀ r ∈ rows, r.length ≤ 4000 ∧ okLits S r) (okl : ∀ r ∈ lines, r.length ≤ 4000 ∧ okLits S r) (hS : okS S) (hrl : rows.length + lines.length < 50000) (hn : n + 100 < 2 ^ 60)
    (k : ∀ st', R (.bl true) st') :
    (sSeq (sAs (mLst (maCons (mLc (miSeq (mVar 12)) (.nm 18) mYes (mCa dList (maCons (mVar 18) maNil)) [18]) (maCons (mLc (miSeq (mVar 13)) (.nm 18) mYes (mCa dList (maCons (mVar 18) maNil)) [18]) (maCons (mCa dList (maCons (mVar 9) maNil)) maNil)))) (gNm 10))
  (sSeq (sFor (miR1 (maCons (mC (.int 3)) maNil)) (gNm 11)
  (sSeq (sIf (mTest (mOp (dEQ false) (mVar 11) (mC (.int 2))))
  (sAs (mCall (sp_law_asked c) (maCons (mCall (sp_law_formed c) (maCons (mVar 1) (maCons (mVar 12) maNil))) (maCons (mCall (sp_law_formed c) (maCons (mVar 1) (maCons (mVar 13) maNil))) (maCons (mCa dTuple (maCons (mVar 9) maNil)) maNil)))) (gTp 2 (gsCons (gNm 19) (gsCons (gNm 20) gsNil))))
  (sAs (mCall (sp_law_asked c) (maCons (mOp dIx (mVar 10) (mC (.int 0))) (maCons (mOp dIx (mVar 10) (mC (.int 1))) (maCons (mOp dIx (mVar 10) (mC (.int 2))) maNil)))) (gTp 2 (gsCons (gNm 19) (gsCons (gNm 20) gsNil)))))
  (sSeq (sIf (mTest (mOp (dEQ true) (mVar 10) (mLst (maCons (mVar 12) (maCons (mVar 13) (maCons (mVar 9) maNil))))))
  (sRt (mC (.bl false)))
  sNx)
  (sIf (mNot (mTest (mCall (sp_law_refutes c) (maCons (mVar 12) (maCons (mVar 13) (maCons (mVar 9) maNil))))))
  (sIf (mOr (mTest (mOp dNotN (mVar 19) (mC .non))) (mNot (mTest (mVar 20))))
  (sRt (mC (.bl false)))
  sNx)
  (sSeq (sIf (mOr (mNot (mTest (mCa dIsi (maCons (mVar 19) (maCons (mC (.raw (.ty "list"))) maNil))))) (mTest (mOp (dEQ true) (mVar 19) (mCall (sp_law_less c) (maCons (mVar 12) (maCons (mVar 13) (maCons (mVar 9) maNil)))))))
  (sRt (mC (.bl false)))
  sNx)
  (sSeq (sFor (miSeq (mVar 19)) (gNm 15)
  (sEx (mMe dApp (mVar 15) (maCons (mC (.int 7)) maNil))))
  (sEx (mMe0 dClr (mVar 19)))))))))
  (sRt (mOp (dEQ false) (mVar 10) (mLst (maCons (mVar 12) (maCons (mVar 13) (maCons (mVar 9) maNil)))))))) ⟨nx, R, bk, ct, xq⟩ [d0, some (.hdl b), d2, d3, d4, d5, d6, d7, d8, some (.lst (dIs as)), d10, d11, some dc, some dl, d14, d15, d16, d17, d18, d19, d20] st := by
  have blt := hb.lt
  have okl' : ∀ r ∈ lines, okLits S r ∧ r.length < 1000000 := fun r h => ⟨(okl r h).2, by have := (okl r h).1; omega⟩
  have okr' : ∀ r ∈ rows, okLits S r := fun r h => (okr r h).2
  walk_at "s"
  obtain ⟨xs0, hq, _, hqr, _⟩ := id hL
  refine dIt_q hq fun inv hinv => ?_
  refine list_rows (i := 18) (ρ := [d0, some (.hdl b), d2, d3, d4, d5, d6, d7, d8, some (.lst (dIs as)), d10, d11, some dc, some dl, d14, d15, d16, d17, none, d19, d20]) (hinv _ fun _ _ => rfl) hqr (by intro _; rfl) (by omega) ?_
  walk_at "s"
  obtain ⟨ys0, hq2, _, hqr2, _⟩ := id hM
  refine dIt_q hq2 fun inv2 hinv2 => ?_
  refine list_rows (i := 18) (ρ := [d0, some (.hdl b), d2, d3, d4, d5, d6, d7, d8, some (.lst (dIs as)), d10, d11, some dc, some dl, d14, d15, d16, d17, none, d19, d20]) (hinv2 _ fun _ _ => rfl) hqr2 (by intro _; rfl) (by omega) ?_
  walk_at "s"
  try refine ⟨by decide, by decide, ?_⟩
  refine forD_ind (fun zs ρ st' => ∃ (q : Nat) (d11 d15 d19 d20 : Option D), zs = rngD q (3 - q) ∧ q ≤ 3 ∧ ρ = [d0, some (.hdl b), d2, d3, d4, d5, d6, d7, d8, some (.lst (dIs as)), some (.lst [.lst (dRows rows), .lst (dRows lines), .lst (dIs as)]), d11, some dc, some dl, d14, d15, d16, d17, d18, d19, d20] ∧ Bag st' b (n + 2 * q) ∧ ExB b st st') ?_ ?_ _ _ _ ⟨0, _, _, _, _, rfl, by omega, rfl, hb, (BX.refl hb).ex⟩
  · rintro ρ st' ⟨q, d11, d15, d19, d20, hz, hq3, rfl, b', x'⟩
    refine ⟨trivial, ?_⟩
    walk_at "s"
    refine dEQ_same3 (b := b) rfl rfl (.lst rows) (.lst lines) rfl (hL.bx x') (hM.bx x') rfl ?_
    try walk_at "s"
    exact k _
  · rintro z zs ρ st' K ⟨q, d11, d15, d19, d20, hz, hq3, rfl, b', x'⟩ hK
    refine ⟨trivial, ?_⟩
    have hlt : q < 3 := by
      have := congrArg List.length hz
      simp [rngD] at this; omega
    obtain ⟨w, hw⟩ : ∃ w, 3 - q = w + 1 := ⟨3 - q - 1, by omega⟩
    rw [hw, rngD_cons] at hz
    cases hz
    have L := hL.bx x'
    have M := hM.bx x'
    have e3 : 3 - (q + 1) = w := by omega
    walk_at "s"
    refine ifB (fun _ => ?_) (fun _ => ?_)
    · walk_at "s"
      refine ⟨b, _, rows, _, rfl, b', L.b, by omega, by omega, fun d' st1 hd' x1 => ?_⟩
      walk_at "s"
      refine ⟨b, _, lines, _, rfl, x1.bag, (M.bx x1.ex).b, by omega, by omega, fun d2' st2 hd2 x2 => ?_⟩
      walk_at "s"
      have z0 : ∀ {st' : Sto} {d : D} {rows : List (List Int)} (st'' : Sto), Rowsd 0 st' d rows → Rowsd st''.length st'' d rows := fun st'' h => h.fr (Nat.zero_le _) fun k hk => absurd hk (Nat.not_lt_zero _)
      have x12 := x'.trans (x1.trans x2).ex
      refine ⟨_, _, _, rows, lines, as, S, rfl, z0 _ hd', z0 _ hd2, .inr rfl, by omega, okr', okl', hS, by omega, fun nr st5 l5 f5 => ?_, fun yr h st5 h5 o5 f5 => ?_⟩
      · iterate 6 walk_at "s1"
        exact turn_end c (x2.bag.any f5) blt (x12.trans ⟨l5, fun i hi _ => f5 i hi⟩) hL hM hal okr okl hS hrl (.inl ⟨nr, rfl, rfl⟩) k fun d15 d19 d20 st6 b6 x6 => hK _ _ ⟨q + 1, _, _, _, _, by rw [e3]; rfl, by omega, rfl, b6.mono (by omega), x6⟩
      · have l5 : st2.length ≤ st5.length := by
          obtain ⟨_, e, _⟩ := o5.q
          have := (List.getElem?_eq_some_iff.mp e).1; omega
        iterate 6 walk_at "s1"
        exact turn_end c (x2.bag.any f5) blt (x12.trans ⟨l5, fun i hi _ => f5 i hi⟩) hL hM hal okr okl hS hrl (.inr ⟨yr, h, st2.length, rfl, rfl, x12.len, h5, o5⟩) k fun d15 d19 d20 st6 b6 x6 => hK _ _ ⟨q + 1, _, _, _, _, by rw [e3]; rfl, by omega, rfl, b6.mono (by omega), x6⟩
    · walk_at "s"
      refine dIx_l rfl ?_
      walk_at "s"
      refine dIx_l rfl ?_
      walk_at "s"
      refine dIx_l rfl ?_
      walk_at "s"
      refine ⟨_, _, _, rows, lines, as, S, rfl, ⟨_, .inl rfl, QRows.lst rows⟩, ⟨_, .inl rfl, QRows.lst lines⟩, .inl rfl, by omega, okr', okl', hS, by omega, fun nr st5 l5 f5 => ?_, fun yr h st5 h5 o5 f5 => ?_⟩
      · iterate 6 walk_at "s1"
        exact turn_end c (b'.any f5) blt (x'.trans ⟨l5, fun i hi _ => f5 i hi⟩) hL hM hal okr okl hS hrl (.inl ⟨nr, rfl, rfl⟩) k fun d15 d19 d20 st6 b6 x6 => hK _ _ ⟨q + 1, _, _, _, _, by rw [e3]; rfl, by omega, rfl, b6.mono (by omega), x6⟩
      · have l5 : st'.length ≤ st5.length := by
          obtain ⟨_, e, _⟩ := o5.q
          have := (List.getElem?_eq_some_iff.mp e).1; omega
        iterate 6 walk_at "s1"
        exact turn_end c (b'.any f5) blt (x'.trans ⟨l5, fun i hi _ => f5 i hi⟩) hL hM hal okr okl hS hrl (.inr ⟨yr, h, st'.length, rfl, rfl, x'.len, h5, o5⟩) k fun d15 d19 d20 st6 b6 x6 => hK _ _ ⟨q + 1, _, _, _, _, by rw [e3]; rfl, by omega, rfl, b6.mono (by omega), x6⟩

theorem dRows_put (L : List (List Int)) (k : Nat) (r : List Int) : (dRows L).take k ++ [.lst (dIs r)] ++ (dRows L).drop k = dRows (L.take k ++ [r] ++ L.drop k) := by simp [dRows, List.map_take, List.map_drop]
/-- lines are put in -/
theorem grow36 (c : Cl) {b n h kk m0 : Nat} {st : Sto} {R : DQ} {xq : XQ} {nx bk ct : DEnv → Sto → Prop} {rows lines : List (List Int)} {vs : List Int} {d0 d2 d3 d5 d6 d7 d8 d9 d10 d11 d14 d15 d16 d17 d18 d19 d20 : Option D} (hb : Bag st b n) (hM : st[h]? = some (.lst (dRows lines))) (hC : st[kk]? = some (.lst (dRows rows))) (hhb : h ≠ b) (hkb : kk ≠ b) (hkh : kk ≠ h)
    (hvn : vs ≠ []) (hvl : vs.length ≤ 1000) (hv : ∀ v ∈ vs, 0 < v ∧ v < 2 ^ 150) (hl0 : lines ≠ []) (hl1 : ∀ r ∈ lines, okV vs r ∧ r.length ≤ 20) (hl2 : lines.length ≤ m0) (hm0 : m0 ≤ 100) (hn : n + 1000000 < 2 ^ 60)
    (k : ∀ (d7 d14 d15 : Option D) (lines : List (List Int)) (st' : Sto), st'[h]? = some (.lst (dRows lines)) → st'[kk]? = some (.lst (dRows rows)) → (∀ r ∈ lines, okV vs r ∧ r.length ≤ 60) → lines.length ≤ m0 + 9 → Bag st' b (n + 500000) → nx [d0, some (.hdl b), d2, d3, some (.lst (dIs vs)), d5, d6, d7, d8, d9, d10, d11, some (.hdl kk), some (.hdl h), d14, d15, d16, d17, d18, d19, d20] st') :
    (sFor (miR1 (maCons (mCall (sp_law_draw c) (maCons (mVar 1) (maCons (mC (.int 9)) maNil))) maNil)) (gNm 7)
  (sSeq (sAs (mCall (sp_law_draw c) (maCons (mVar 1) (maCons (mCa dLen (maCons (mVar 13) maNil)) maNil))) (gNm 14))
  (sSeq (sAs (mOp dAdd (mOp dIx (mVar 13) (mVar 14)) (mCall (sp_law_clause c) (maCons (mVar 1) (maCons (mVar 4) (maCons (mC (.int 2)) maNil))))) (gNm 15))
  (sEx (mMe dIns (mVar 13) (maCons (mCall (sp_law_draw c) (maCons (mVar 1) (maCons (mCa dLen (maCons (mVar 13) maNil)) maNil))) (maCons (mOp dIx (mLst (maCons (mVar 15) (maCons (mCall (sp_law_clause c) (maCons (mVar 1) (maCons (mVar 4) (maCons (mC (.int 3)) maNil)))) maNil))) (mOp dDiv (mCall (sp_law_draw c) (maCons (mVar 1) (maCons (mC (.int 8)) maNil))) (mC (.int 7)))) maNil))))))) ⟨nx, R, bk, ct, xq⟩ [d0, some (.hdl b), d2, d3, some (.lst (dIs vs)), d5, d6, d7, d8, d9, d10, d11, some (.hdl kk), some (.hdl h), d14, d15, d16, d17, d18, d19, d20] st := by
  walk_at "s"
  refine ⟨b, _, n, rfl, hb, by decide, by decide, by omega, fun cnt st1 c0 c1 x1 => ?_⟩
  walk_at "s"
  refine ⟨by omega, by omega, ?_⟩
  refine forD_ind (fun zs ρ st' => ∃ (q : Nat) (lines : List (List Int)) (d7 d14 d15 : Option D), zs = rngD q (cnt.toNat - q) ∧ q ≤ cnt.toNat ∧ ρ = [d0, some (.hdl b), d2, d3, some (.lst (dIs vs)), d5, d6, d7, d8, d9, d10, d11, some (.hdl kk), some (.hdl h), d14, d15, d16, d17, d18, d19, d20] ∧ st'[h]? = some (.lst (dRows lines)) ∧ st'[kk]? = some (.lst (dRows rows)) ∧ lines ≠ [] ∧ (∀ r ∈ lines, okV vs r ∧ r.length ≤ 20 + 3 * q) ∧ lines.length ≤ m0 + q ∧ Bag st' b (n + 1 + 10000 * q)) ?_ ?_ _ _ _ ⟨0, lines, _, _, _, by simp, by omega, rfl, x1.ex.cell hM hhb, x1.ex.cell hC hkb, hl0, hl1, hl2, x1.bag⟩
  · rintro ρ st2 ⟨q, lines, d7, d14, d15, hx, hq, rfl, e2, C2, ne2, ok2, len2, bag2⟩
    exact ⟨trivial, k _ _ _ lines st2 e2 C2 (fun r hr => ⟨(ok2 r hr).1, by have := (ok2 r hr).2; omega⟩) (by omega) (bag2.mono (by omega))⟩
  · rintro z zs ρ st2 K ⟨q, lines, d7, d14, d15, hx, hq, rfl, e2, C2, ne2, ok2, len2, bag2⟩ hK
    refine ⟨trivial, ?_⟩
    have hltq : q < cnt.toNat := by
      have := congrArg List.length hx
      simp [rngD] at this; omega
    obtain ⟨w, hw⟩ : ∃ w, cnt.toNat - q = w + 1 := ⟨cnt.toNat - q - 1, by omega⟩
    rw [hw, rngD_cons] at hx
    cases hx
    have lpos : 0 < lines.length := List.length_pos_iff.mpr ne2
    have lr : (dRows lines).length = lines.length := by simp [dRows]
    walk_at "s"
    refine dLen_h e2 ?_
    walk_at "s"
    refine ⟨b, _, _, rfl, bag2, by rw [lr]; omega, by rw [lr]; omega, by omega, fun at' st3 a0 a1 x3 => ?_⟩
    walk_at "s"
    have e3 := x3.ex.cell e2 hhb
    rw [lr] at a1
    have alt : at'.toNat < lines.length := by omega
    refine dIx_h e3 (d := .lst (dIs lines[at'.toNat])) (atI_nat a0 (by simp only [dRows, List.getElem?_map, List.getElem?_eq_getElem alt, Option.map])) ?_
    walk_at "s"
    refine ⟨b, vs, 2, _, rfl, x3.bag, hvn, hvl, hv, by omega, by omega, by omega, fun ls st4 n1 n2 x4 => ?_⟩
    obtain ⟨oka, la⟩ := ok2 _ (List.getElem_mem alt)
    walk_at "s"
    refine dAdd_l rfl rfl (by simp only [dIs, List.length_map, sizeLine]; omega) ?_
    rw [dIs_app]
    walk_at "s"
    have e4 := x4.ex.cell e3 hhb
    refine ⟨isLD_h e4, ?_⟩
    walk_at "s"
    refine dLen_h e4 ?_
    walk_at "s"
    refine ⟨b, _, _, rfl, x4.bag, by rw [lr]; omega, by rw [lr]; omega, by omega, fun to st5 t0 t1 x5 => ?_⟩
    walk_at "s"
    refine ⟨b, vs, 3, _, rfl, x5.bag, hvn, hvl, hv, by omega, by omega, by omega, fun ls2 st6 m1 m2 x6 => ?_⟩
    walk_at "s"
    refine ⟨b, _, _, rfl, x6.bag, by decide, by decide, by omega, fun r st7 r0 r1 x7 => ?_⟩
    walk_at "s"
    refine dII_i (cdw (by omega) (by omega)) ?_
    obtain ⟨row, erow, okrow, lrow⟩ : ∃ row : List Int, atI [D.lst (dIs (lines[at'.toNat] ++ ls)), .lst (dIs ls2)] (r / 7) = some (.lst (dIs row)) ∧ okV vs row ∧ row.length ≤ 20 + 3 * (q + 1) := by
      have hr : r / 7 = 0 ∨ r / 7 = 1 := by omega
      rcases hr with e | e
      · rw [e]; exact ⟨_, rfl, okV_app oka n2, by simp; omega⟩
      · rw [e]; exact ⟨_, rfl, m2, by omega⟩
    refine dIx_l erow ?_
    walk_at "s"
    have x47 := (x5.trans x6).trans x7
    have e7 := x47.ex.cell e4 hhb
    have C7 := x47.ex.cell (x4.ex.cell (x3.ex.cell C2 hkb) hkb) hkb
    rw [lr] at t1
    refine dIns_h e7 (by rw [lr]; simp only [sizeLine]; omega) (by omega) (by omega) ?_
    rw [dRows_put]
    refine hK _ _ ⟨q + 1, lines.take to.toNat ++ [row] ++ lines.drop to.toNat, _, _, _, by rw [show cnt.toNat - (q + 1) = w by omega]; congr 1, by omega, rfl, getElem?_set_same e7 _, by rw [List.getElem?_set_ne (Ne.symm hkh)]; exact C7, by simp, fun r' hr' => ?_, by simp; omega, (x7.bag.set hhb).mono (by omega)⟩
    simp only [List.mem_append, List.mem_singleton] at hr'
    rcases hr' with (z | rfl) | z
    · have := ok2 r' (List.mem_of_mem_take z); exact ⟨this.1, by omega⟩
    · exact ⟨okrow, lrow⟩
    · have := ok2 r' (List.mem_of_mem_drop z); exact ⟨this.1, by omega⟩

/-- from the assumed on -/
theorem tail36 (c : Cl) {b n : Nat} {st : Sto} {R : DQ} {xq : XQ} {nx bk ct : DEnv → Sto → Prop} {dc dl : D} {rows lines : List (List Int)} {gs vs : List Int} {d0 d2 d3 d5 d7 d8 d9 d10 d11 d14 d15 d16 d17 d18 d19 d20 : Option D} (hb : Bag st b n) (hL : RowsL b st dc rows) (hM : RowsL b st dl lines)
    (hvn : vs ≠ []) (hvl : vs.length ≤ 100) (hv : ∀ v ∈ vs, 0 < v ∧ v < 2 ^ 150) (hg : okV vs gs) (hgl : gs.length ≤ 100) (okr : ∀ r ∈ rows, okV vs r ∧ r.length ≤ 200) (okl : ∀ r ∈ lines, okV vs r ∧ r.length ≤ 200) (hrl : rows.length + lines.length < 10000) (hn : n + 1000000 < 2 ^ 60)
    (k : ∀ st', R (.bl true) st') :
    (sSeq (sAs (mLc (miR1 (maCons (mOp dIx (mLst (maCons (mC (.int 0)) (maCons (mC (.int 4)) maNil))) (mCall (sp_law_draw c) (maCons (mVar 1) (maCons (mC (.int 2)) maNil)))) maNil)) (.nm 7) mYes (mCall (sp_law_literal c) (maCons (mVar 1) (maCons (mVar 4) maNil))) [7]) (gNm 8))
  (sSeq (sAs (mCall (sp_law_shuffled c) (maCons (mVar 1) (maCons (mOp dAdd (mVar 6) (mVar 8)) maNil))) (gNm 9))
  (sSeq (sAs (mLst (maCons (mLc (miSeq (mVar 12)) (.nm 18) mYes (mCa dList (maCons (mVar 18) maNil)) [18]) (maCons (mLc (miSeq (mVar 13)) (.nm 18) mYes (mCa dList (maCons (mVar 18) maNil)) [18]) (maCons (mCa dList (maCons (mVar 9) maNil)) maNil)))) (gNm 10))
  (sSeq (sFor (miR1 (maCons (mC (.int 3)) maNil)) (gNm 11)
  (sSeq (sIf (mTest (mOp (dEQ false) (mVar 11) (mC (.int 2))))
  (sAs (mCall (sp_law_asked c) (maCons (mCall (sp_law_formed c) (maCons (mVar 1) (maCons (mVar 12) maNil))) (maCons (mCall (sp_law_formed c) (maCons (mVar 1) (maCons (mVar 13) maNil))) (maCons (mCa dTuple (maCons (mVar 9) maNil)) maNil)))) (gTp 2 (gsCons (gNm 19) (gsCons (gNm 20) gsNil))))
  (sAs (mCall (sp_law_asked c) (maCons (mOp dIx (mVar 10) (mC (.int 0))) (maCons (mOp dIx (mVar 10) (mC (.int 1))) (maCons (mOp dIx (mVar 10) (mC (.int 2))) maNil)))) (gTp 2 (gsCons (gNm 19) (gsCons (gNm 20) gsNil)))))
  (sSeq (sIf (mTest (mOp (dEQ true) (mVar 10) (mLst (maCons (mVar 12) (maCons (mVar 13) (maCons (mVar 9) maNil))))))
  (sRt (mC (.bl false)))
  sNx)
  (sIf (mNot (mTest (mCall (sp_law_refutes c) (maCons (mVar 12) (maCons (mVar 13) (maCons (mVar 9) maNil))))))
  (sIf (mOr (mTest (mOp dNotN (mVar 19) (mC .non))) (mNot (mTest (mVar 20))))
  (sRt (mC (.bl false)))
  sNx)
  (sSeq (sIf (mOr (mNot (mTest (mCa dIsi (maCons (mVar 19) (maCons (mC (.raw (.ty "list"))) maNil))))) (mTest (mOp (dEQ true) (mVar 19) (mCall (sp_law_less c) (maCons (mVar 12) (maCons (mVar 13) (maCons (mVar 9) maNil)))))))
  (sRt (mC (.bl false)))
  sNx)
  (sSeq (sFor (miSeq (mVar 19)) (gNm 15)
  (sEx (mMe dApp (mVar 15) (maCons (mC (.int 7)) maNil))))
  (sEx (mMe0 dClr (mVar 19)))))))))
  (sRt (mOp (dEQ false) (mVar 10) (mLst (maCons (mVar 12) (maCons (mVar 13) (maCons (mVar 9) maNil)))))))))) ⟨nx, R, bk, ct, xq⟩ [d0, some (.hdl b), d2, d3, some (.lst (dIs vs)), d5, some (.lst (dIs gs)), d7, d8, d9, d10, d11, some dc, some dl, d14, d15, d16, d17, d18, d19, d20] st := by
  have hS : okS (symS vs) := ⟨by simp [symS]; omega, symS_ng⟩
  have okU : ∀ r, okV vs r → okLits (symS vs) r := fun r hr => symS_ok hv hr
  walk_at "s"
  refine ⟨b, _, n, rfl, hb, by decide, by decide, by omega, fun f st1 f0 f1 x1 => ?_⟩
  walk_at "s"
  obtain ⟨F, eF, hF⟩ : ∃ F : Nat, atI [D.int 0, D.int 4] f = some (.int F) ∧ F ≤ 4 := by
    have hf : f = 0 ∨ f = 1 := by omega
    rcases hf with rfl | rfl
    · exact ⟨0, rfl, by omega⟩
    · exact ⟨4, rfl, by omega⟩
  refine dIx_l eF ?_
  walk_at "s"
  refine ⟨by omega, by omega, ?_⟩
  rw [Int.toNat_natCast]
  refine lcD_ind (fun xs acc st' => ∃ (q : Nat) (ls : List Int), xs = rngD q (F - q) ∧ q ≤ F ∧ acc = dIs ls ∧ ls.length = q ∧ okV vs ls ∧ BX b st1 (n + 1 + 2 * q) st') ?_ ?_ _ _ _ ⟨0, [], by simp, by omega, rfl, rfl, (fun l hl => by cases hl), BX.refl x1.bag⟩
  · rintro acc st2 ⟨q, ls, hx, hq, rfl, hql, okls, x2⟩
    refine ⟨trivial, ?_⟩
    walk_at "s"
    refine dAdd_l rfl rfl (by simp only [dIs, List.length_map, sizeLine]; omega) ?_
    rw [dIs_app]
    walk_at "s"
    refine ⟨b, _, _, _, rfl, x2.bag, (fun e => by cases e), rfl, by simp only [dIs, List.length_map, List.length_append]; omega, by omega, fun ys st3 hp x3 => ?_⟩
    obtain ⟨as, rfl, hp'⟩ := perm_map_inv hp (gs ++ ls) rfl
    have x13 := x1.ex.trans (x2.ex.trans x3.ex)
    iterate 1 walk_at "s1"
    exact turns c (rows := rows) (lines := lines) (as := as) (S := symS vs) x3.bag (hL.bx x13) (hM.bx x13) (by rw [hp'.length_eq]; simp; omega) (fun r hr => ⟨by have := (okr r hr).2; omega, okU r (okr r hr).1⟩) (fun r hr => ⟨by have := (okl r hr).2; omega, okU r (okl r hr).1⟩) hS (by omega) (by omega) k
  · rintro x xs acc st2 K ⟨q, ls, hx, hq, rfl, hql, okls, x2⟩ hK
    refine ⟨trivial, ?_⟩
    have hltq : q < F := by
      have := congrArg List.length hx
      simp [rngD] at this; omega
    obtain ⟨w, hw⟩ : ∃ w, F - q = w + 1 := ⟨F - q - 1, by omega⟩
    rw [hw, rngD_cons] at hx
    cases hx
    walk_at "s"
    refine ⟨b, vs, _, rfl, x2.bag, hvn, by omega, hv, by omega, fun l st3 hl x3 => ?_⟩
    refine ⟨by simp only [dIs, List.length_map, sizeLine]; omega, hK _ _ ⟨q + 1, ls ++ [l], by rw [show F - (q + 1) = w by omega]; congr 1, by omega, by simp [dIs], by simp [hql], okV_app okls (fun y hy => by simp at hy; subst hy; exact hl), (x2.trans x3).mono (by omega)⟩⟩
theorem sem_law (c : Cl) : ∀ ds st R xq, splaw c ds st R xq → wlaw c (EndsOf R xq) (startD ["_law_script", "_law_bag_here", "_law_spoil", "_law_where", "_law_variables_here", "_law_many", "_law_guards", "_law_k", "_law_more", "_law_some", "_law_handed", "_law_turn", "_law_clauses", "_law_lines", "_law_at", "_law_line", "_law_rows", "_law_guard", "_law_row", "_law_found", "_law_refused"] ds) st := by
  rintro ds st R xq ⟨ns, rfl, hns, k⟩
  show wlaw c ⟨_, _, _, _, _⟩ [some (.scr (dIs ns)), none, none, none, none, none, none, none, none, none, none, none, none, none, none, none, none, none, none, none, none] st
  unfold wlaw
  walk_at "s"
  refine ⟨ns, rfl, hns, fun cell hcell => ?_⟩
  walk_at "s"
  generalize hb : st.length = b
  have bag0 : Bag (st ++ [cell]) b 0 := ⟨cell, by rw [← hb]; exact get_last, hcell⟩
  generalize st ++ [cell] = st0 at bag0
  refine ⟨b, _, _, rfl, bag0, by decide, by decide, by omega, fun sp st2 sp0 sp1 x2 => ?_⟩
  walk_at "s"
  refine ⟨b, _, _, rfl, x2.bag, by decide, by decide, by omega, fun wh st3 wh0 wh1 x3 => ?_⟩
  walk_at "s"
  refine ⟨b, _, _, rfl, x3.bag, by decide, by decide, by omega, fun vs st4 hvl hv hvd x4 => ?_⟩
  have hvl7 : vs.length = 7 := by simpa using hvl
  have hvn : vs ≠ [] := fun e => by rw [e] at hvl7; simp at hvl7
  walk_at "s"
  refine ⟨b, _, _, rfl, x4.bag, by decide, by decide, by omega, fun m1 st5 m10 m11 x5 => ?_⟩
  walk_at "s"
  obtain ⟨mN, emN, hmN, hmN2⟩ : ∃ mN : Nat, 1 + m1 = (mN : Int) ∧ 1 ≤ mN ∧ mN ≤ 4 := ⟨(1 + m1).toNat, by omega, by omega, by omega⟩
  rw [emN]
  refine ⟨b, _, _, rfl, x5.bag, by decide, by decide, by omega, fun g st6 g0 g1 x6 => ?_⟩
  walk_at "s"
  simp only [dSl, dr_lstD]
  obtain ⟨gN, rfl⟩ : ∃ gN : Nat, g = gN := ⟨g.toNat, by omega⟩
  have eg := cut_mid (xs := dIs vs) (a := 4) (r := gN) (by simp; omega)
  have ec : ((4 : Int) + (gN : Int)) = ((4 + gN : Nat) : Int) := by omega
  rw [ec, show (4 : Int) = ((4 : Nat) : Int) from rfl, eg, show ((dIs vs).drop 4).take gN = dIs ((vs.drop 4).take gN) by simp [dIs, List.map_take, List.map_drop]]
  walk_at "s"
  refine turn_guards c (i := 17) (b := b) (n := 0 + 1 + 1 + 300 + 1 + 1) (ρ := [some (.scr (dIs ns)), some (.hdl b), some (.int sp), some (.int wh), some (.lst (dIs vs)), some (.int mN), none, none, none, none, none, none, none, none, none, none, none, none, none, none, none]) x6.bag (by intro _; rfl) (by intro _; rfl) hv (fun g hg => List.mem_of_mem_drop (List.mem_of_mem_take hg)) (by simp; omega) (by omega) fun gs st7 hgs hgl x7 => ?_
  have hgl2 : gs.length ≤ 3 := by rw [hgl]; simp; omega
  walk_at "s"
  simp only [dSl, dr_lstD]
  rw [cut_take (xs := dIs vs) (n := mN) (by simp; omega), show (dIs vs).take mN = dIs (vs.take mN) by simp [dIs, List.map_take]]
  walk_at "s"
  have okvs : okV vs (vs.take mN) := fun l hl => .inl (List.mem_of_mem_take hl)
  have tl : (vs.take mN).length = mN := by simp; omega
  refine ⟨b, _, vs.take mN, gs, rfl, x7.bag, by omega, by omega, by omega, fun kk h cl Ls st8 hk1 hh1 hhk ek eh hcl hLl hLs x8 => ?_⟩
  have bl7 := x7.bag.lt
  have hhb : h ≠ b := by omega
  have hkb : kk ≠ b := by omega
  obtain ⟨cl1, cl2⟩ := hcl.ok okvs hgs
  have cl3 : cl.length ≤ 16 := by rw [cl2, tl]; exact Nat.pow_le_pow_right (n := 2) (by decide) hmN2
  obtain ⟨fl1, fl2⟩ := RowsPerm.flat okvs hgs (by omega) hLl hLs
  have fl0 : Ls.flatten ≠ [] := by
    obtain ⟨L, eL, hp⟩ := hLs 0 (by omega)
    have q := (hp.ok (okV_take okvs) hgs).2
    have : 0 < L.length := by rw [q]; exact Nat.pow_pos (by decide)
    obtain ⟨r, hr⟩ := List.exists_mem_of_length_pos this
    exact List.ne_nil_of_mem (List.mem_flatten.mpr ⟨L, List.mem_of_getElem? eL, hr⟩)
  generalize Ls.flatten = ln at eh fl1 fl2 fl0
  walk_at "s1"
  walk_at "s1"
  walk_at "s1"
  walk_at "s1"
  walk_at "s1"
  walk_at "s1"
  walk_at "s1"
  refine grow36 c (m0 := 32) x8.bag eh ek hhb hkb hhk hvn (by omega) hv fl0 (fun r hr => ⟨(fl1 r hr).1, by have := (fl1 r hr).2; omega⟩) (by omega) (by omega) (by omega) fun d7 d14 d15 lines st9 e9 c9 ok9 len9 bag9 => ?_
  have L9 : RowsL b st9 (.hdl kk) cl := RowsL.hdl c9 hkb
  have M9 : RowsL b st9 (.hdl h) lines := RowsL.hdl e9 hhb
  have okcl : ∀ r ∈ cl, okV vs r ∧ r.length ≤ 60 := fun r hr => ⟨(cl1 r hr).1, by rw [(cl1 r hr).2]; omega⟩
  walk_at "s"
  refine ifB (fun _ => ?_) (fun _ => ?_)
  · walk_at "s"
    obtain ⟨dw, rw', edw, hdw, okw, lenw⟩ : ∃ (dw : D) (rw' : List (List Int)), atI [D.hdl h, .hdl kk] wh = some dw ∧ RowsL b st9 dw rw' ∧ (∀ r ∈ rw', okV vs r ∧ r.length ≤ 60) ∧ rw'.length ≤ 100 := by
      have hw : wh = 0 ∨ wh = 1 := by omega
      rcases hw with rfl | rfl
      · exact ⟨_, lines, rfl, M9, ok9, by omega⟩
      · exact ⟨_, cl, rfl, L9, okcl, by omega⟩
    refine dIx_l edw ?_
    walk_at "s"
    refine ⟨b, _, 60, _, vs, rw', rfl, bag9, hdw, hvn, by omega, hv, okw, by omega, by omega, by omega, fun hn' rows' st10 hn1 rl' okn lenn x10 => ?_⟩
    walk_at "s"
    have L10 := L9.bx x10.ex
    have M10 := M9.bx x10.ex
    have hw : wh = 0 ∨ wh = 1 := by omega
    rcases hw with rfl | rfl
    · refine dIx_l rfl ?_
      iterate 6 walk_at "s1"
      exact tail36 c (gs := gs) (vs := vs) x10.bag L10 rl' hvn (by omega) hv hgs (by omega) (fun r hr => ⟨(okcl r hr).1, by have := (okcl r hr).2; omega⟩) (fun r hr => ⟨(okn r hr).1, by have := (okn r hr).2; omega⟩) (by omega) (by omega) k
    · refine dIx_l rfl ?_
      iterate 6 walk_at "s1"
      exact tail36 c (gs := gs) (vs := vs) x10.bag rl' M10 hvn (by omega) hv hgs (by omega) (fun r hr => ⟨(okn r hr).1, by have := (okn r hr).2; omega⟩) (fun r hr => ⟨(ok9 r hr).1, by have := (ok9 r hr).2; omega⟩) (by omega) (by omega) k
  · walk_at "s1"
    exact tail36 c (gs := gs) (vs := vs) bag9 L9 M9 hvn (by omega) hv hgs (by omega) (fun r hr => ⟨(okcl r hr).1, by have := (okcl r hr).2; omega⟩) (fun r hr => ⟨(ok9 r hr).1, by have := (ok9 r hr).2; omega⟩) (by omega) (by omega) k

theorem sem_of {α : Prop} (h : α) : α := h
theorem fnUnits_take {P : Program} {w : World} {G : Gm} {mg : Str → Option Value} {base : Heap} {c : Cl} (B : Bl mg) (T : ClD G mg c)  {f : Addr} {fd : FuncData} (F : Fun G.K "take" "Units.take" stUnits_take f fd) : FnD P w G mg base CX0 1 f fd ["self", "literal"] (spUnits_take c) := by
  refine FnD.mk F scUnits_take ?_ (fun cdv A outer s H E hr => deUnits_take B T  cdv A outer s H E hr) (sem_of (sem_take c))
  intro ds st R xq h
  unfold spUnits_take at h
  repeat (first | (obtain ⟨rfl, _⟩ := h; rfl) | (obtain ⟨_, h⟩ := h))
theorem fnUnits_moved {P : Program} {w : World} {G : Gm} {mg : Str → Option Value} {base : Heap} {c : Cl} (B : Bl mg) (T : ClD G mg c)  {f : Addr} {fd : FuncData} (F : Fun G.K "moved" "Units.moved" stUnits_moved f fd) : FnD P w G mg base CX0 1 f fd ["self", "row", "literal"] (spUnits_moved c) := by
  refine FnD.mk F scUnits_moved ?_ (fun cdv A outer s H E hr => deUnits_moved B T  cdv A outer s H E hr) (sem_of (sem_moved c))
  intro ds st R xq h
  unfold spUnits_moved at h
  repeat (first | (obtain ⟨rfl, _⟩ := h; rfl) | (obtain ⟨_, h⟩ := h))
theorem fnUnits_spread {P : Program} {w : World} {G : Gm} {mg : Str → Option Value} {base : Heap} {c : Cl} (B : Bl mg) (T : ClD G mg c) (FUnits_moved : CalM P w G mg base 1 c.Units NUnits "moved" (spUnits_moved c)) (FUnits_take : CalM P w G mg base 1 c.Units NUnits "take" (spUnits_take c)) {f : Addr} {fd : FuncData} (F : Fun G.K "spread" "Units.spread" stUnits_spread f fd) : FnD P w G mg base CX0 2 f fd ["self"] (spUnits_spread c) := by
  refine FnD.mk F scUnits_spread ?_ (fun cdv A outer s H E hr => deUnits_spread B T FUnits_moved FUnits_take cdv A outer s H E hr) (sem_of (sem_spread c))
  intro ds st R xq h
  unfold spUnits_spread at h
  repeat (first | (obtain ⟨rfl, _⟩ := h; rfl) | (obtain ⟨_, h⟩ := h))
theorem fnUnits_follows {P : Program} {w : World} {G : Gm} {mg : Str → Option Value} {base : Heap} {c : Cl} (B : Bl mg) (T : ClD G mg c) (FUnits_take : CalM P w G mg base 1 c.Units NUnits "take" (spUnits_take c)) (FUnits_spread : CalM P w G mg base 2 c.Units NUnits "spread" (spUnits_spread c)) {f : Addr} {fd : FuncData} (F : Fun G.K "follows" "Units.follows" stUnits_follows f fd) : FnD P w G mg base CX0 3 f fd ["self", "line"] (spUnits_follows c) := by
  refine FnD.mk F scUnits_follows ?_ (fun cdv A outer s H E hr => deUnits_follows B T FUnits_take FUnits_spread cdv A outer s H E hr) (sem_of (sem_follows c))
  intro ds st R xq h
  unfold spUnits_follows at h
  repeat (first | (obtain ⟨rfl, _⟩ := h; rfl) | (obtain ⟨_, h⟩ := h))
theorem fn_law_bag {P : Program} {w : World} {G : Gm} {mg : Str → Option Value} {base : Heap} {c : Cl} (B : Bl mg) (T : ClD G mg c)  {f : Addr} {fd : FuncData} (F : Fun G.K "_law_bag" "_law_bag" st_law_bag f fd) : FnD P w G mg base CX0 1 f fd ["_law_script"] (sp_law_bag c) := by
  refine FnD.mk F sc_law_bag ?_ (fun cdv A outer s H E hr => de_law_bag B T  cdv A outer s H E hr) (sem_of (sem_law_bag c))
  intro ds st R xq h
  unfold sp_law_bag at h
  repeat (first | (obtain ⟨rfl, _⟩ := h; rfl) | (obtain ⟨_, h⟩ := h))
theorem fn_law_stir {P : Program} {w : World} {G : Gm} {mg : Str → Option Value} {base : Heap} {c : Cl} (B : Bl mg) (T : ClD G mg c)  {f : Addr} {fd : FuncData} (F : Fun G.K "_law_stir" "_law_stir" st_law_stir f fd) : FnD P w G mg base CX0 1 f fd ["_law_number", "_law_place"] (sp_law_stir c) := by
  refine FnD.mk F sc_law_stir ?_ (fun cdv A outer s H E hr => de_law_stir B T  cdv A outer s H E hr) (sem_of (sem_stir c))
  intro ds st R xq h
  unfold sp_law_stir at h
  repeat (first | (obtain ⟨rfl, _⟩ := h; rfl) | (obtain ⟨_, h⟩ := h))
theorem fn_law_draw {P : Program} {w : World} {G : Gm} {mg : Str → Option Value} {base : Heap} {c : Cl} (B : Bl mg) (T : ClD G mg c) (F_law_stir : Cal P w G mg base 1 "_law_stir" (sp_law_stir c)) {f : Addr} {fd : FuncData} (F : Fun G.K "_law_draw" "_law_draw" st_law_draw f fd) : FnD P w G mg base CX0 2 f fd ["_law_bag_here", "_law_many"] (sp_law_draw c) := by
  refine FnD.mk F sc_law_draw ?_ (fun cdv A outer s H E hr => de_law_draw B T F_law_stir cdv A outer s H E hr) (sem_of (sem_draw c))
  intro ds st R xq h
  unfold sp_law_draw at h
  repeat (first | (obtain ⟨rfl, _⟩ := h; rfl) | (obtain ⟨_, h⟩ := h))
theorem fn_law_variables {P : Program} {w : World} {G : Gm} {mg : Str → Option Value} {base : Heap} {c : Cl} (B : Bl mg) (T : ClD G mg c) (F_law_draw : Cal P w G mg base 2 "_law_draw" (sp_law_draw c)) {f : Addr} {fd : FuncData} (F : Fun G.K "_law_variables" "_law_variables" st_law_variables f fd) : FnD P w G mg base CX0 3 f fd ["_law_bag_here", "_law_many"] (sp_law_variables c) := by
  refine FnD.mk F sc_law_variables ?_ (fun cdv A outer s H E hr => de_law_variables B T F_law_draw cdv A outer s H E hr) (sem_of (sem_law_variables c))
  intro ds st R xq h
  unfold sp_law_variables at h
  repeat (first | (obtain ⟨rfl, _⟩ := h; rfl) | (obtain ⟨_, h⟩ := h))
theorem fn_law_literal {P : Program} {w : World} {G : Gm} {mg : Str → Option Value} {base : Heap} {c : Cl} (B : Bl mg) (T : ClD G mg c) (F_law_draw : Cal P w G mg base 2 "_law_draw" (sp_law_draw c)) {f : Addr} {fd : FuncData} (F : Fun G.K "_law_literal" "_law_literal" st_law_literal f fd) : FnD P w G mg base CX0 3 f fd ["_law_bag_here", "_law_variables_here"] (sp_law_literal c) := by
  refine FnD.mk F sc_law_literal ?_ (fun cdv A outer s H E hr => de_law_literal B T F_law_draw cdv A outer s H E hr) (sem_of (sem_law_literal c))
  intro ds st R xq h
  unfold sp_law_literal at h
  repeat (first | (obtain ⟨rfl, _⟩ := h; rfl) | (obtain ⟨_, h⟩ := h))
theorem fn_law_clause {P : Program} {w : World} {G : Gm} {mg : Str → Option Value} {base : Heap} {c : Cl} (B : Bl mg) (T : ClD G mg c) (F_law_draw : Cal P w G mg base 2 "_law_draw" (sp_law_draw c)) (F_law_literal : Cal P w G mg base 3 "_law_literal" (sp_law_literal c)) {f : Addr} {fd : FuncData} (F : Fun G.K "_law_clause" "_law_clause" st_law_clause f fd) : FnD P w G mg base CX0 4 f fd ["_law_bag_here", "_law_variables_here", "_law_most"] (sp_law_clause c) := by
  refine FnD.mk F sc_law_clause ?_ (fun cdv A outer s H E hr => de_law_clause B T F_law_draw F_law_literal cdv A outer s H E hr) (sem_of (sem_law_clause c))
  intro ds st R xq h
  unfold sp_law_clause at h
  repeat (first | (obtain ⟨rfl, _⟩ := h; rfl) | (obtain ⟨_, h⟩ := h))
theorem fn_law_shuffled {P : Program} {w : World} {G : Gm} {mg : Str → Option Value} {base : Heap} {c : Cl} (B : Bl mg) (T : ClD G mg c) (F_law_draw : Cal P w G mg base 2 "_law_draw" (sp_law_draw c)) {f : Addr} {fd : FuncData} (F : Fun G.K "_law_shuffled" "_law_shuffled" st_law_shuffled f fd) : FnD P w G mg base CX0 3 f fd ["_law_bag_here", "_law_rows"] (sp_law_shuffled c) := by
  refine FnD.mk F sc_law_shuffled ?_ (fun cdv A outer s H E hr => de_law_shuffled B T F_law_draw cdv A outer s H E hr) (sem_of (sem_law_shuffled c))
  intro ds st R xq h
  unfold sp_law_shuffled at h
  repeat (first | (obtain ⟨rfl, _⟩ := h; rfl) | (obtain ⟨_, h⟩ := h))
theorem fn_law_clash {P : Program} {w : World} {G : Gm} {mg : Str → Option Value} {base : Heap} {c : Cl} (B : Bl mg) (T : ClD G mg c)  {f : Addr} {fd : FuncData} (F : Fun G.K "_law_clash" "_law_clash" st_law_clash f fd) : FnD P w G mg base CX0 1 f fd ["_law_clauses", "_law_truths"] (sp_law_clash c) := by
  refine FnD.mk F sc_law_clash ?_ (fun cdv A outer s H E hr => de_law_clash B T  cdv A outer s H E hr) (sem_of (sem_law_clash c))
  intro ds st R xq h
  unfold sp_law_clash at h
  repeat (first | (obtain ⟨rfl, _⟩ := h; rfl) | (obtain ⟨_, h⟩ := h))
theorem fn_law_follows {P : Program} {w : World} {G : Gm} {mg : Str → Option Value} {base : Heap} {c : Cl} (B : Bl mg) (T : ClD G mg c) (F_law_clash : Cal P w G mg base 1 "_law_clash" (sp_law_clash c)) {f : Addr} {fd : FuncData} (F : Fun G.K "_law_follows" "_law_follows" st_law_follows f fd) : FnD P w G mg base CX0 2 f fd ["_law_clauses", "_law_line"] (sp_law_follows c) := by
  refine FnD.mk F sc_law_follows ?_ (fun cdv A outer s H E hr => de_law_follows B T F_law_clash cdv A outer s H E hr) (sem_of (sem_law_follows c))
  intro ds st R xq h
  unfold sp_law_follows at h
  repeat (first | (obtain ⟨rfl, _⟩ := h; rfl) | (obtain ⟨_, h⟩ := h))
theorem fn_law_is_paper {P : Program} {w : World} {G : Gm} {mg : Str → Option Value} {base : Heap} {c : Cl} (B : Bl mg) (T : ClD G mg c) (F_law_follows : Cal P w G mg base 2 "_law_follows" (sp_law_follows c)) {f : Addr} {fd : FuncData} (F : Fun G.K "_law_is_paper" "_law_is_paper" st_law_is_paper f fd) : FnD P w G mg base CX0 3 f fd ["_law_clauses", "_law_lines"] (sp_law_is_paper c) := by
  refine FnD.mk F sc_law_is_paper ?_ (fun cdv A outer s H E hr => de_law_is_paper B T F_law_follows cdv A outer s H E hr) (sem_of (sem_law_is_paper c))
  intro ds st R xq h
  unfold sp_law_is_paper at h
  repeat (first | (obtain ⟨rfl, _⟩ := h; rfl) | (obtain ⟨_, h⟩ := h))
theorem fn_law_refutes {P : Program} {w : World} {G : Gm} {mg : Str → Option Value} {base : Heap} {c : Cl} (B : Bl mg) (T : ClD G mg c) (F_law_is_paper : Cal P w G mg base 3 "_law_is_paper" (sp_law_is_paper c)) {f : Addr} {fd : FuncData} (F : Fun G.K "_law_refutes" "_law_refutes" st_law_refutes f fd) : FnD P w G mg base CX0 4 f fd ["_law_clauses", "_law_lines", "_law_some"] (sp_law_refutes c) := by
  refine FnD.mk F sc_law_refutes ?_ (fun cdv A outer s H E hr => de_law_refutes B T F_law_is_paper cdv A outer s H E hr) (sem_of (sem_law_refutes c))
  intro ds st R xq h
  unfold sp_law_refutes at h
  repeat (first | (obtain ⟨rfl, _⟩ := h; rfl) | (obtain ⟨_, h⟩ := h))
theorem fn_law_full {P : Program} {w : World} {G : Gm} {mg : Str → Option Value} {base : Heap} {c : Cl} (B : Bl mg) (T : ClD G mg c)  {f : Addr} {fd : FuncData} (F : Fun G.K "_law_full" "_law_full" st_law_full f fd) : FnD P w G mg base CX0 1 f fd ["_law_variables_here", "_law_guards"] (sp_law_full c) := by
  refine FnD.mk F sc_law_full ?_ (fun cdv A outer s H E hr => de_law_full B T  cdv A outer s H E hr) (sem_of (sem_law_full c))
  intro ds st R xq h
  unfold sp_law_full at h
  repeat (first | (obtain ⟨rfl, _⟩ := h; rfl) | (obtain ⟨_, h⟩ := h))
theorem fn_law_planted {P : Program} {w : World} {G : Gm} {mg : Str → Option Value} {base : Heap} {c : Cl} (B : Bl mg) (T : ClD G mg c) (F_law_shuffled : Cal P w G mg base 3 "_law_shuffled" (sp_law_shuffled c)) (F_law_full : Cal P w G mg base 1 "_law_full" (sp_law_full c)) {f : Addr} {fd : FuncData} (F : Fun G.K "_law_planted" "_law_planted" st_law_planted f fd) : FnD P w G mg base CX0 4 f fd ["_law_bag_here", "_law_variables_here", "_law_guards"] (sp_law_planted c) := by
  refine FnD.mk F sc_law_planted ?_ (fun cdv A outer s H E hr => de_law_planted B T F_law_shuffled F_law_full cdv A outer s H E hr) (sem_of (sem_law_planted c))
  intro ds st R xq h
  unfold sp_law_planted at h
  repeat (first | (obtain ⟨rfl, _⟩ := h; rfl) | (obtain ⟨_, h⟩ := h))
theorem fn_law_changed {P : Program} {w : World} {G : Gm} {mg : Str → Option Value} {base : Heap} {c : Cl} (B : Bl mg) (T : ClD G mg c) (F_law_draw : Cal P w G mg base 2 "_law_draw" (sp_law_draw c)) (F_law_literal : Cal P w G mg base 3 "_law_literal" (sp_law_literal c)) (F_law_clause : Cal P w G mg base 4 "_law_clause" (sp_law_clause c)) {f : Addr} {fd : FuncData} (F : Fun G.K "_law_changed" "_law_changed" st_law_changed f fd) : FnD P w G mg base CX0 5 f fd ["_law_bag_here", "_law_rows", "_law_variables_here"] (sp_law_changed c) := by
  refine FnD.mk F sc_law_changed ?_ (fun cdv A outer s H E hr => de_law_changed B T F_law_draw F_law_literal F_law_clause cdv A outer s H E hr) (sem_of (sem_law_changed c))
  intro ds st R xq h
  unfold sp_law_changed at h
  repeat (first | (obtain ⟨rfl, _⟩ := h; rfl) | (obtain ⟨_, h⟩ := h))
theorem fn_law_less {P : Program} {w : World} {G : Gm} {mg : Str → Option Value} {base : Heap} {c : Cl} (B : Bl mg) (T : ClD G mg c) (F_law_refutes : Cal P w G mg base 4 "_law_refutes" (sp_law_refutes c)) {f : Addr} {fd : FuncData} (F : Fun G.K "_law_less" "_law_less" st_law_less f fd) : FnD P w G mg base CX0 5 f fd ["_law_clauses", "_law_lines", "_law_some"] (sp_law_less c) := by
  refine FnD.mk F sc_law_less ?_ (fun cdv A outer s H E hr => de_law_less B T F_law_refutes cdv A outer s H E hr) (sem_of (sem_law_less c))
  intro ds st R xq h
  unfold sp_law_less at h
  repeat (first | (obtain ⟨rfl, _⟩ := h; rfl) | (obtain ⟨_, h⟩ := h))
theorem fn_law_formed {P : Program} {w : World} {G : Gm} {mg : Str → Option Value} {base : Heap} {c : Cl} (B : Bl mg) (T : ClD G mg c) (F_law_draw : Cal P w G mg base 2 "_law_draw" (sp_law_draw c)) {f : Addr} {fd : FuncData} (F : Fun G.K "_law_formed" "_law_formed" st_law_formed f fd) : FnD P w G mg base CX0 3 f fd ["_law_bag_here", "_law_rows"] (sp_law_formed c) := by
  refine FnD.mk F sc_law_formed ?_ (fun cdv A outer s H E hr => de_law_formed B T F_law_draw cdv A outer s H E hr) (sem_of (sem_law_formed c))
  intro ds st R xq h
  unfold sp_law_formed at h
  repeat (first | (obtain ⟨rfl, _⟩ := h; rfl) | (obtain ⟨_, h⟩ := h))
theorem fnUnits_add_clause {P : Program} {w : World} {G : Gm} {mg : Str → Option Value} {base : Heap} {c : Cl} (B : Bl mg) (T : ClD G mg c) (FUnits_take : CalM P w G mg base 1 c.Units NUnits "take" (spUnits_take c)) (FUnits_spread : CalM P w G mg base 2 c.Units NUnits "spread" (spUnits_spread c)) {f : Addr} {fd : FuncData} (F : Fun G.K "add_clause" "Units.add_clause" stUnits_add_clause f fd) : FnD P w G mg base CX0 3 f fd ["self", "clause"] (spUnits_add_clause c) := by
  refine FnD.mk F scUnits_add_clause ?_ (fun cdv A outer s H E hr => deUnits_add_clause B T FUnits_take FUnits_spread cdv A outer s H E hr) (sem_of (sem_add_clause c))
  intro ds st R xq h
  unfold spUnits_add_clause at h
  repeat (first | (obtain ⟨rfl, _⟩ := h; rfl) | (obtain ⟨_, h⟩ := h))
theorem fnUnits_DinitD {P : Program} {w : World} {G : Gm} {mg : Str → Option Value} {base : Heap} {c : Cl} (B : Bl mg) (T : ClD G mg c) (FUnits_add_clause : CalM P w G mg base 3 c.Units NUnits "add_clause" (spUnits_add_clause c)) {f : Addr} {fd : FuncData} (F : Fun G.K "__init__" "Units.__init__" stUnits_DinitD f fd) : FnD P w G mg base CX0 4 f fd ["self", "clauses"] (spUnits_DinitD c) := by
  refine FnD.mk F scUnits_DinitD ?_ (fun cdv A outer s H E hr => deUnits_DinitD B T FUnits_add_clause cdv A outer s H E hr) (sem_of (sem_init c))
  intro ds st R xq h
  unfold spUnits_DinitD at h
  repeat (first | (obtain ⟨rfl, _⟩ := h; rfl) | (obtain ⟨_, h⟩ := h))
theorem fnall_follow {P : Program} {w : World} {G : Gm} {mg : Str → Option Value} {base : Heap} {c : Cl} (B : Bl mg) (T : ClD G mg c) (FUnits_DinitD : CalI P w G mg base 4 c.Units "Units" (spUnits_DinitD c)) (FUnits_follows : CalM P w G mg base 3 c.Units NUnits "follows" (spUnits_follows c)) (FUnits_add_clause : CalM P w G mg base 3 c.Units NUnits "add_clause" (spUnits_add_clause c)) {f : Addr} {fd : FuncData} (F : Fun G.K "all_follow" "all_follow" stall_follow f fd) : FnD P w G mg base CX0 6 f fd ["clauses", "lines"] (spall_follow c) := by
  refine FnD.mk F scall_follow ?_ (fun cdv A outer s H E hr => deall_follow B T FUnits_DinitD FUnits_follows FUnits_add_clause cdv A outer s H E hr) (sem_of (sem_all_follow c))
  intro ds st R xq h
  unfold spall_follow at h
  repeat (first | (obtain ⟨rfl, _⟩ := h; rfl) | (obtain ⟨_, h⟩ := h))
theorem fnrefutes {P : Program} {w : World} {G : Gm} {mg : Str → Option Value} {base : Heap} {c : Cl} (B : Bl mg) (T : ClD G mg c) (Fall_follow : Cal P w G mg base 6 "all_follow" (spall_follow c)) {f : Addr} {fd : FuncData} (F : Fun G.K "refutes" "refutes" strefutes f fd) : FnD P w G mg base CX0 7 f fd ["clauses", "lines", "assumed"] (sprefutes c) := by
  refine FnD.mk F screfutes ?_ (fun cdv A outer s H E hr => derefutes B T Fall_follow cdv A outer s H E hr) (sem_of (sem_refutes c))
  intro ds st R xq h
  unfold sprefutes at h
  repeat (first | (obtain ⟨rfl, _⟩ := h; rfl) | (obtain ⟨_, h⟩ := h))
theorem fnmade_less {P : Program} {w : World} {G : Gm} {mg : Str → Option Value} {base : Heap} {c : Cl} (B : Bl mg) (T : ClD G mg c) (FKrefutes : CalK P w G mg base 7 "refutes" 2 ["assumed"] (sprefutes c)) (Fall_follow : Cal P w G mg base 6 "all_follow" (spall_follow c)) {f : Addr} {fd : FuncData} (F : Fun G.K "made_less" "made_less" stmade_less f fd) : FnD P w G mg base (L2.CX P w) 8 f fd ["clauses", "lines", "assumed"] (spmade_less c) := by
  refine FnD.mkX F scmade_less ?_ (fun cdv A outer s H E hr tk => demade_less B T FKrefutes Fall_follow cdv A outer s H E hr tk) (sem_of (sem_made_less c))
  intro ds st R xq h
  unfold spmade_less at h
  repeat (first | (obtain ⟨rfl, _⟩ := h; rfl) | (obtain ⟨_, h⟩ := h))
theorem fn_law_asked {P : Program} {w : World} {G : Gm} {mg : Str → Option Value} {base : Heap} {c : Cl} (B : Bl mg) (T : ClD G mg c) (FDmade_less : CalDX P w G mg base 8 "made_less" (spmade_less c)) (FKmade_less : CalKX P w G mg base 8 "made_less" 2 ["assumed"] (spmade_less c)) {f : Addr} {fd : FuncData} (F : Fun G.K "_law_asked" "_law_asked" st_law_asked f fd) : FnD P w G mg base CX0 9 f fd ["_law_clauses", "_law_lines", "_law_some"] (sp_law_asked c) := by
  refine FnD.mk F sc_law_asked ?_ (fun cdv A outer s H E hr => de_law_asked B T FDmade_less FKmade_less cdv A outer s H E hr) (sem_of (sem_law_asked c))
  intro ds st R xq h
  unfold sp_law_asked at h
  repeat (first | (obtain ⟨rfl, _⟩ := h; rfl) | (obtain ⟨_, h⟩ := h))
theorem fnlaw {P : Program} {w : World} {G : Gm} {mg : Str → Option Value} {base : Heap} {c : Cl} (B : Bl mg) (T : ClD G mg c) (F_law_bag : Cal P w G mg base 1 "_law_bag" (sp_law_bag c)) (F_law_draw : Cal P w G mg base 2 "_law_draw" (sp_law_draw c)) (F_law_variables : Cal P w G mg base 3 "_law_variables" (sp_law_variables c)) (F_law_planted : Cal P w G mg base 4 "_law_planted" (sp_law_planted c)) (F_law_clause : Cal P w G mg base 4 "_law_clause" (sp_law_clause c)) (F_law_changed : Cal P w G mg base 5 "_law_changed" (sp_law_changed c)) (F_law_literal : Cal P w G mg base 3 "_law_literal" (sp_law_literal c)) (F_law_shuffled : Cal P w G mg base 3 "_law_shuffled" (sp_law_shuffled c)) (F_law_asked : Cal P w G mg base 9 "_law_asked" (sp_law_asked c)) (F_law_formed : Cal P w G mg base 3 "_law_formed" (sp_law_formed c)) (F_law_refutes : Cal P w G mg base 4 "_law_refutes" (sp_law_refutes c)) (F_law_less : Cal P w G mg base 5 "_law_less" (sp_law_less c)) {f : Addr} {fd : FuncData} (F : Fun G.K "law" "law" stlaw f fd) : FnD P w G mg base CX0 10 f fd ["_law_script"] (splaw c) := by
  refine FnD.mk F sclaw ?_ (fun cdv A outer s H E hr => delaw B T F_law_bag F_law_draw F_law_variables F_law_planted F_law_clause F_law_changed F_law_literal F_law_shuffled F_law_asked F_law_formed F_law_refutes F_law_less cdv A outer s H E hr) (sem_of (sem_law c))
  intro ds st R xq h
  unfold splaw at h
  repeat (first | (obtain ⟨rfl, _⟩ := h; rfl) | (obtain ⟨_, h⟩ := h))
theorem exm_sub {K : PySem.W.Frag} {C P : Addr} {b : Bool} (h1 : PySem.W.subIn K (.ref P) (.type "BaseException") = some true) (h2 : PySem.W.isClsIn K P = true) (h3 : PySem.W.typeIn K (.ref P) = some (.type "type")) (h4 : PySem.W.subIn K (.ref C) (.ref P) = some b) : PySem.W.exmOne K (.ref C) (.ref P) = some b := by
  unfold PySem.W.isClsIn at h2
  simp only [PySem.W.exmOne, PySem.W.kitCls, h1, h2, h3, h4, beq_self_eq_true, Bool.and_self, if_true]
theorem kit_sub {K : PySem.W.Frag} {C D : Addr} {b : Bool} (h1 : PySem.W.subIn K (.ref C) (.ref C) = some true) (h2 : PySem.W.isClsIn K D = true) (h3 : PySem.W.typeIn K (.ref D) = some (.type "type")) (h4 : PySem.W.subIn K (.ref C) (.ref D) = some b) : PySem.W.kitOne K (.ref C) (.ref D) = some b := by
  unfold PySem.W.isClsIn at h2
  unfold PySem.W.kitOne
  by_cases e : C = D
  · subst e
    rw [h1] at h4
    cases h4
    rw [if_pos (by simp)]
  · rw [if_neg (by simp [e])]
    simp only [PySem.W.kitCls, h2, h3, h4, beq_self_eq_true, Bool.and_self, if_true]
theorem kit_subT {K : PySem.W.Frag} {C : Addr} {T : String} {b : Bool} (h : PySem.W.kitMeta T = true) (h4 : PySem.W.subIn K (.ref C) (.type T) = some b) : PySem.W.kitOne K (.ref C) (.type T) = some b := by
  unfold PySem.W.kitOne
  rw [if_neg (by simp)]
  simp only [PySem.W.kitCls, h, h4, if_true]
theorem binds_dflt {K : PySem.W.Frag} {fd : FuncData} {ps : List Str} {x : Str} {T : Addr} (h : ∃ ds, Vals ([(x, V.ref T)].map (·.2)) ds ∧ Binds K fd ps ds) : Binds K fd ps [.ref T] := by
  obtain ⟨ds, v, b⟩ := h
  cases v with
  | cons r rr => cases rr; cases r; exact b
theorem sqT_nil {K : PySem.W.Frag} {T : Addr} {ox : Option Addr} {n : Nat} {sx : Array (Option Value)} (t : K.lookup T = some ⟨.type "tuple", ox, .seq #[] n, sx⟩) : SqT K (fun _ => none) T [] := .inr ⟨_, #[], n, t, rfl, rfl, by simp, .nil⟩
def spLaw (K : PySem.W.Frag) : Sp := fun vs H Q _ => ∃ (a : Addr) (ns : List Int), vs = [.ref a] ∧ SqL K H a (ns.map V.int) ∧ ns.length ≤ 63 ∧ ∀ H', Q (.bl true) H'
theorem RpL_ints {K : PySem.W.Frag} {W : Wd} {H : Hp} : ∀ ns : List Int, RpL K W H (dIs ns) (ns.map V.int)
  | [] => by simp [RpL]
  | n :: ns => by
    simp only [dIs, List.map_cons, RpL]
    exact ⟨_, _, rfl, by simp [Rp], RpL_ints ns⟩
theorem law_start {K : PySem.W.Frag} {c : Cl} {g : Addr → List Str} {vs : List V} {H : Hp} {Q : VK} {E : XK} (h : spLaw K vs H Q E) : spD ⟨K, g⟩ (splaw c) vs H Q E := by
  obtain ⟨a, ns, rfl, hS, hl, k⟩ := h
  refine ⟨⟨[], []⟩, [.scr (dIs ns)], [], fun d _ => d = .bl true, fun _ _ => False, ⟨by simp, rfl, by simp, by simp, fun k c e => by simp at e⟩, ?_, ⟨ns, rfl, by omega, fun _ => rfl⟩, ⟨fun W' H' d v st' _ _ r e => by subst e; simp only [Rp] at r; subst r; exact k _, fun _ _ _ _ _ _ q => q.elim⟩⟩
  simp only [RpL]
  refine ⟨_, _, rfl, ?_, rfl⟩
  simp only [Rp]
  refine ⟨a, ns.map V.int, rfl, ?_, RpL_ints ns⟩
  rcases hS with q | q
  · exact .inl ⟨by simp, by simp, q⟩
  · exact .inr (.inr q)

theorem all_mk {l : PySem.W.OpenLaw} {w : World} {K : PySem.W.Frag} {h : Heap} {mg : Str → Option Value} {fa C0 X0 X1 X2 X3 X4 X5 X6 X7 X8 X9 X10 X11 X12 X13 f0 f1 f2 f3 f4 f5 f6 f7 f8 f9 f10 f11 f12 f13 f14 f15 f16 f17 f18 f19 f20 f21 f22 f23 kD23 kT23 f24 kD24 kT24 f25 f26 : Addr} (X : K.In h) (G : h.Ns mainGlobals mg) (hfa : mg "law" = some (.ref fa))
    {od0 an0 od1 an1 od2 an2 od3 an3 od4 an4 od5 an5 od6 an6 od7 an7 od8 an8 od9 an9 od10 an10 od11 an11 od12 an12 od13 an13 od14 an14 od15 an15 od16 an16 od17 an17 od18 an18 od19 an19 od20 an20 od21 an21 od22 an22 od23 an23 ox23 od24 an24 ox24 od25 an25 od26 an26 : Option Addr} {sl0 sl1 sl2 sl3 sl4 sl5 sl6 sl7 sl8 sl9 sl10 sl11 sl12 sl13 sl14 sl15 sl16 sl17 sl18 sl19 sl20 sl21 sl22 sl23 sx23 sl24 sx24 sl25 sl26 : Array (Option Value)} {oc0 dc0 pm0 cd0 ct0 kV0 oc1 dc1 pm1 cd1 ct1 kV1 oc2 dc2 pm2 cd2 ct2 kV2 oc3 dc3 pm3 cd3 ct3 kV3 oc4 dc4 pm4 cd4 ct4 kV4 oc5 dc5 pm5 cd5 ct5 kV5 oc6 dc6 pm6 cd6 ct6 kV6 oc7 dc7 pm7 cd7 ct7 kV7 oc8 dc8 pm8 cd8 ct8 kV8 oc9 dc9 pm9 cd9 ct9 kV9 oc10 dc10 pm10 cd10 ct10 kV10 oc11 dc11 pm11 cd11 ct11 kV11 oc12 dc12 pm12 cd12 ct12 kV12 oc13 dc13 pm13 cd13 ct13 kV13 oc14 dc14 pm14 cd14 ct14 kV14 oc15 dc15 pm15 cd15 ct15 kV15 oc16 dc16 pm16 cd16 ct16 kV16 oc17 dc17 pm17 cd17 ct17 kV17 oc18 dc18 pm18 cd18 ct18 kV18 oc19 dc19 pm19 cd19 ct19 kV19 oc20 dc20 pm20 cd20 ct20 kV20 oc21 dc21 pm21 cd21 ct21 kV21 oc22 dc22 pm22 cd22 ct22 kV22 oc23 dc23 pm23 cd23 ct23 oc24 dc24 pm24 cd24 ct24 oc25 dc25 pm25 cd25 ct25 kV25 oc26 dc26 pm26 cd26 ct26 kV26 : Value} {tn23 tn24 : Nat}
    (a0 : PySem.W.findIn K (.ref C0) "take" = some (some (.ref f0))) (i0 : PySem.W.isFn K (.ref f0) = true)
    (l0 : K.lookup f0 = some ⟨oc0, od0, .func (PySem.W.fnOf "take" "Units.take" (defArgs stUnits_take) (defBody stUnits_take) (defScope stUnits_take) .none kV0 dc0 pm0 an0 cd0 ct0), sl0⟩) (c0 : PySem.W.codeIn K cd0 "Units.take" = true) (k0 : PySem.W.keepIn K (.ref f0) = true)
    (a1 : PySem.W.findIn K (.ref C0) "moved" = some (some (.ref f1))) (i1 : PySem.W.isFn K (.ref f1) = true)
    (l1 : K.lookup f1 = some ⟨oc1, od1, .func (PySem.W.fnOf "moved" "Units.moved" (defArgs stUnits_moved) (defBody stUnits_moved) (defScope stUnits_moved) .none kV1 dc1 pm1 an1 cd1 ct1), sl1⟩) (c1 : PySem.W.codeIn K cd1 "Units.moved" = true) (k1 : PySem.W.keepIn K (.ref f1) = true)
    (a2 : PySem.W.findIn K (.ref C0) "spread" = some (some (.ref f2))) (i2 : PySem.W.isFn K (.ref f2) = true)
    (l2 : K.lookup f2 = some ⟨oc2, od2, .func (PySem.W.fnOf "spread" "Units.spread" (defArgs stUnits_spread) (defBody stUnits_spread) (defScope stUnits_spread) .none kV2 dc2 pm2 an2 cd2 ct2), sl2⟩) (c2 : PySem.W.codeIn K cd2 "Units.spread" = true) (k2 : PySem.W.keepIn K (.ref f2) = true)
    (a3 : PySem.W.findIn K (.ref C0) "follows" = some (some (.ref f3))) (i3 : PySem.W.isFn K (.ref f3) = true)
    (l3 : K.lookup f3 = some ⟨oc3, od3, .func (PySem.W.fnOf "follows" "Units.follows" (defArgs stUnits_follows) (defBody stUnits_follows) (defScope stUnits_follows) .none kV3 dc3 pm3 an3 cd3 ct3), sl3⟩) (c3 : PySem.W.codeIn K cd3 "Units.follows" = true) (k3 : PySem.W.keepIn K (.ref f3) = true)
    (a4 : PySem.W.nsIn K mainGlobals "_law_bag" = some (some (.ref f4)))
    (l4 : K.lookup f4 = some ⟨oc4, od4, .func (PySem.W.fnOf "_law_bag" "_law_bag" (defArgs st_law_bag) (defBody st_law_bag) (defScope st_law_bag) .none kV4 dc4 pm4 an4 cd4 ct4), sl4⟩) (c4 : PySem.W.codeIn K cd4 "_law_bag" = true) (k4 : PySem.W.keepIn K (.ref f4) = true)
    (a5 : PySem.W.nsIn K mainGlobals "_law_stir" = some (some (.ref f5)))
    (l5 : K.lookup f5 = some ⟨oc5, od5, .func (PySem.W.fnOf "_law_stir" "_law_stir" (defArgs st_law_stir) (defBody st_law_stir) (defScope st_law_stir) .none kV5 dc5 pm5 an5 cd5 ct5), sl5⟩) (c5 : PySem.W.codeIn K cd5 "_law_stir" = true) (k5 : PySem.W.keepIn K (.ref f5) = true)
    (a6 : PySem.W.nsIn K mainGlobals "_law_draw" = some (some (.ref f6)))
    (l6 : K.lookup f6 = some ⟨oc6, od6, .func (PySem.W.fnOf "_law_draw" "_law_draw" (defArgs st_law_draw) (defBody st_law_draw) (defScope st_law_draw) .none kV6 dc6 pm6 an6 cd6 ct6), sl6⟩) (c6 : PySem.W.codeIn K cd6 "_law_draw" = true) (k6 : PySem.W.keepIn K (.ref f6) = true)
    (a7 : PySem.W.nsIn K mainGlobals "_law_variables" = some (some (.ref f7)))
    (l7 : K.lookup f7 = some ⟨oc7, od7, .func (PySem.W.fnOf "_law_variables" "_law_variables" (defArgs st_law_variables) (defBody st_law_variables) (defScope st_law_variables) .none kV7 dc7 pm7 an7 cd7 ct7), sl7⟩) (c7 : PySem.W.codeIn K cd7 "_law_variables" = true) (k7 : PySem.W.keepIn K (.ref f7) = true)
    (a8 : PySem.W.nsIn K mainGlobals "_law_literal" = some (some (.ref f8)))
    (l8 : K.lookup f8 = some ⟨oc8, od8, .func (PySem.W.fnOf "_law_literal" "_law_literal" (defArgs st_law_literal) (defBody st_law_literal) (defScope st_law_literal) .none kV8 dc8 pm8 an8 cd8 ct8), sl8⟩) (c8 : PySem.W.codeIn K cd8 "_law_literal" = true) (k8 : PySem.W.keepIn K (.ref f8) = true)
    (a9 : PySem.W.nsIn K mainGlobals "_law_clause" = some (some (.ref f9)))
    (l9 : K.lookup f9 = some ⟨oc9, od9, .func (PySem.W.fnOf "_law_clause" "_law_clause" (defArgs st_law_clause) (defBody st_law_clause) (defScope st_law_clause) .none kV9 dc9 pm9 an9 cd9 ct9), sl9⟩) (c9 : PySem.W.codeIn K cd9 "_law_clause" = true) (k9 : PySem.W.keepIn K (.ref f9) = true)
    (a10 : PySem.W.nsIn K mainGlobals "_law_shuffled" = some (some (.ref f10)))
    (l10 : K.lookup f10 = some ⟨oc10, od10, .func (PySem.W.fnOf "_law_shuffled" "_law_shuffled" (defArgs st_law_shuffled) (defBody st_law_shuffled) (defScope st_law_shuffled) .none kV10 dc10 pm10 an10 cd10 ct10), sl10⟩) (c10 : PySem.W.codeIn K cd10 "_law_shuffled" = true) (k10 : PySem.W.keepIn K (.ref f10) = true)
    (a11 : PySem.W.nsIn K mainGlobals "_law_clash" = some (some (.ref f11)))
    (l11 : K.lookup f11 = some ⟨oc11, od11, .func (PySem.W.fnOf "_law_clash" "_law_clash" (defArgs st_law_clash) (defBody st_law_clash) (defScope st_law_clash) .none kV11 dc11 pm11 an11 cd11 ct11), sl11⟩) (c11 : PySem.W.codeIn K cd11 "_law_clash" = true) (k11 : PySem.W.keepIn K (.ref f11) = true)
    (a12 : PySem.W.nsIn K mainGlobals "_law_follows" = some (some (.ref f12)))
    (l12 : K.lookup f12 = some ⟨oc12, od12, .func (PySem.W.fnOf "_law_follows" "_law_follows" (defArgs st_law_follows) (defBody st_law_follows) (defScope st_law_follows) .none kV12 dc12 pm12 an12 cd12 ct12), sl12⟩) (c12 : PySem.W.codeIn K cd12 "_law_follows" = true) (k12 : PySem.W.keepIn K (.ref f12) = true)
    (a13 : PySem.W.nsIn K mainGlobals "_law_is_paper" = some (some (.ref f13)))
    (l13 : K.lookup f13 = some ⟨oc13, od13, .func (PySem.W.fnOf "_law_is_paper" "_law_is_paper" (defArgs st_law_is_paper) (defBody st_law_is_paper) (defScope st_law_is_paper) .none kV13 dc13 pm13 an13 cd13 ct13), sl13⟩) (c13 : PySem.W.codeIn K cd13 "_law_is_paper" = true) (k13 : PySem.W.keepIn K (.ref f13) = true)
    (a14 : PySem.W.nsIn K mainGlobals "_law_refutes" = some (some (.ref f14)))
    (l14 : K.lookup f14 = some ⟨oc14, od14, .func (PySem.W.fnOf "_law_refutes" "_law_refutes" (defArgs st_law_refutes) (defBody st_law_refutes) (defScope st_law_refutes) .none kV14 dc14 pm14 an14 cd14 ct14), sl14⟩) (c14 : PySem.W.codeIn K cd14 "_law_refutes" = true) (k14 : PySem.W.keepIn K (.ref f14) = true)
    (a15 : PySem.W.nsIn K mainGlobals "_law_full" = some (some (.ref f15)))
    (l15 : K.lookup f15 = some ⟨oc15, od15, .func (PySem.W.fnOf "_law_full" "_law_full" (defArgs st_law_full) (defBody st_law_full) (defScope st_law_full) .none kV15 dc15 pm15 an15 cd15 ct15), sl15⟩) (c15 : PySem.W.codeIn K cd15 "_law_full" = true) (k15 : PySem.W.keepIn K (.ref f15) = true)
    (a16 : PySem.W.nsIn K mainGlobals "_law_planted" = some (some (.ref f16)))
    (l16 : K.lookup f16 = some ⟨oc16, od16, .func (PySem.W.fnOf "_law_planted" "_law_planted" (defArgs st_law_planted) (defBody st_law_planted) (defScope st_law_planted) .none kV16 dc16 pm16 an16 cd16 ct16), sl16⟩) (c16 : PySem.W.codeIn K cd16 "_law_planted" = true) (k16 : PySem.W.keepIn K (.ref f16) = true)
    (a17 : PySem.W.nsIn K mainGlobals "_law_changed" = some (some (.ref f17)))
    (l17 : K.lookup f17 = some ⟨oc17, od17, .func (PySem.W.fnOf "_law_changed" "_law_changed" (defArgs st_law_changed) (defBody st_law_changed) (defScope st_law_changed) .none kV17 dc17 pm17 an17 cd17 ct17), sl17⟩) (c17 : PySem.W.codeIn K cd17 "_law_changed" = true) (k17 : PySem.W.keepIn K (.ref f17) = true)
    (a18 : PySem.W.nsIn K mainGlobals "_law_less" = some (some (.ref f18)))
    (l18 : K.lookup f18 = some ⟨oc18, od18, .func (PySem.W.fnOf "_law_less" "_law_less" (defArgs st_law_less) (defBody st_law_less) (defScope st_law_less) .none kV18 dc18 pm18 an18 cd18 ct18), sl18⟩) (c18 : PySem.W.codeIn K cd18 "_law_less" = true) (k18 : PySem.W.keepIn K (.ref f18) = true)
    (a19 : PySem.W.nsIn K mainGlobals "_law_formed" = some (some (.ref f19)))
    (l19 : K.lookup f19 = some ⟨oc19, od19, .func (PySem.W.fnOf "_law_formed" "_law_formed" (defArgs st_law_formed) (defBody st_law_formed) (defScope st_law_formed) .none kV19 dc19 pm19 an19 cd19 ct19), sl19⟩) (c19 : PySem.W.codeIn K cd19 "_law_formed" = true) (k19 : PySem.W.keepIn K (.ref f19) = true)
    (a20 : PySem.W.findIn K (.ref C0) "add_clause" = some (some (.ref f20))) (i20 : PySem.W.isFn K (.ref f20) = true)
    (l20 : K.lookup f20 = some ⟨oc20, od20, .func (PySem.W.fnOf "add_clause" "Units.add_clause" (defArgs stUnits_add_clause) (defBody stUnits_add_clause) (defScope stUnits_add_clause) .none kV20 dc20 pm20 an20 cd20 ct20), sl20⟩) (c20 : PySem.W.codeIn K cd20 "Units.add_clause" = true) (k20 : PySem.W.keepIn K (.ref f20) = true)
    (a21 : PySem.W.findIn K (.ref C0) "__init__" = some (some (.ref f21))) (i21 : PySem.W.isFn K (.ref f21) = true)
    (l21 : K.lookup f21 = some ⟨oc21, od21, .func (PySem.W.fnOf "__init__" "Units.__init__" (defArgs stUnits_DinitD) (defBody stUnits_DinitD) (defScope stUnits_DinitD) .none kV21 dc21 pm21 an21 cd21 ct21), sl21⟩) (c21 : PySem.W.codeIn K cd21 "Units.__init__" = true) (k21 : PySem.W.keepIn K (.ref f21) = true)
    (a22 : PySem.W.nsIn K mainGlobals "all_follow" = some (some (.ref f22)))
    (l22 : K.lookup f22 = some ⟨oc22, od22, .func (PySem.W.fnOf "all_follow" "all_follow" (defArgs stall_follow) (defBody stall_follow) (defScope stall_follow) .none kV22 dc22 pm22 an22 cd22 ct22), sl22⟩) (c22 : PySem.W.codeIn K cd22 "all_follow" = true) (k22 : PySem.W.keepIn K (.ref f22) = true)
    (a23 : PySem.W.nsIn K mainGlobals "refutes" = some (some (.ref f23)))
    (l23 : K.lookup f23 = some ⟨oc23, od23, .func (PySem.W.fnOf "refutes" "refutes" (defArgs strefutes) (defBody strefutes) (defScope strefutes) .none (.ref kD23) dc23 pm23 an23 cd23 ct23), sl23⟩) (c23 : PySem.W.codeIn K cd23 "refutes" = true) (k23 : PySem.W.keepIn K (.ref f23) = true)
    (q23 : PySem.W.nsIn K kD23 "assumed" = some (some (.ref kT23))) (t23 : K.lookup kT23 = some ⟨.type "tuple", ox23, .seq #[] tn23, sx23⟩)
    (a24 : PySem.W.nsIn K mainGlobals "made_less" = some (some (.ref f24)))
    (l24 : K.lookup f24 = some ⟨oc24, od24, .func (PySem.W.fnOf "made_less" "made_less" (defArgs stmade_less) (defBody stmade_less) (defScope stmade_less) .none (.ref kD24) dc24 pm24 an24 cd24 ct24), sl24⟩) (c24 : PySem.W.codeIn K cd24 "made_less" = true) (k24 : PySem.W.keepIn K (.ref f24) = true)
    (q24 : PySem.W.nsIn K kD24 "assumed" = some (some (.ref kT24))) (t24 : K.lookup kT24 = some ⟨.type "tuple", ox24, .seq #[] tn24, sx24⟩)
    (a25 : PySem.W.nsIn K mainGlobals "_law_asked" = some (some (.ref f25)))
    (l25 : K.lookup f25 = some ⟨oc25, od25, .func (PySem.W.fnOf "_law_asked" "_law_asked" (defArgs st_law_asked) (defBody st_law_asked) (defScope st_law_asked) .none kV25 dc25 pm25 an25 cd25 ct25), sl25⟩) (c25 : PySem.W.codeIn K cd25 "_law_asked" = true) (k25 : PySem.W.keepIn K (.ref f25) = true)
    (a26 : PySem.W.nsIn K mainGlobals "law" = some (some (.ref f26)))
    (l26 : K.lookup f26 = some ⟨oc26, od26, .func (PySem.W.fnOf "law" "law" (defArgs stlaw) (defBody stlaw) (defScope stlaw) .none kV26 dc26 pm26 an26 cd26 ct26), sl26⟩) (c26 : PySem.W.codeIn K cd26 "law" = true) (k26 : PySem.W.keepIn K (.ref f26) = true)
    (aC0 : PySem.W.nsIn K mainGlobals "Units" = some (some (.ref C0))) (pg0 : PySem.W.plainGet K C0 Str.empty = true) (hd0 : PySem.W.hasDictIn K C0 = true) (po0 : PySem.W.plainOver K C0 = true) (sa0 : PySem.W.findIn K (.ref C0) "__setattr__" = some (some (.builtin "object.__setattr__"))) (mk0 : PySem.W.makesIn K C0 = true) (kc0 : PySem.W.keepIn K (.ref C0) = true)
    (n0_0 : PySem.W.findIn K (.ref C0) "watching" = some none)
    (n0_1 : PySem.W.findIn K (.ref C0) "truths" = some none)
    (n0_2 : PySem.W.findIn K (.ref C0) "trail" = some none)
    (n0_3 : PySem.W.findIn K (.ref C0) "gone" = some none)
    (n0_4 : PySem.W.findIn K (.ref C0) "broken" = some none)
    (ax0 : PySem.W.nsIn K mainGlobals "ProofError" = some (some (.ref X0))) (kx0 : PySem.W.keepIn K (.ref X0) = true) (cx0 : PySem.W.isClsIn K X0 = true) (tx0 : PySem.W.typeIn K (.ref X0) = some (.type "type"))
    (ax1 : PySem.W.nsIn K mainGlobals "NoPaper" = some (some (.ref X1))) (kx1 : PySem.W.keepIn K (.ref X1) = true) (cx1 : PySem.W.isClsIn K X1 = true) (tx1 : PySem.W.typeIn K (.ref X1) = some (.type "type"))
    (ax2 : PySem.W.nsIn K mainGlobals "NoForm" = some (some (.ref X2))) (kx2 : PySem.W.keepIn K (.ref X2) = true) (cx2 : PySem.W.isClsIn K X2 = true) (tx2 : PySem.W.typeIn K (.ref X2) = some (.type "type"))
    (ax3 : PySem.W.nsIn K mainGlobals "NoKind" = some (some (.ref X3))) (kx3 : PySem.W.keepIn K (.ref X3) = true) (cx3 : PySem.W.isClsIn K X3 = true) (tx3 : PySem.W.typeIn K (.ref X3) = some (.type "type"))
    (ax4 : PySem.W.nsIn K mainGlobals "NoLevel" = some (some (.ref X4))) (kx4 : PySem.W.keepIn K (.ref X4) = true) (cx4 : PySem.W.isClsIn K X4 = true) (tx4 : PySem.W.typeIn K (.ref X4) = some (.type "type"))
    (ax5 : PySem.W.nsIn K mainGlobals "NoModel" = some (some (.ref X5))) (kx5 : PySem.W.keepIn K (.ref X5) = true) (cx5 : PySem.W.isClsIn K X5 = true) (tx5 : PySem.W.typeIn K (.ref X5) = some (.type "type"))
    (ax6 : PySem.W.nsIn K mainGlobals "NoName" = some (some (.ref X6))) (kx6 : PySem.W.keepIn K (.ref X6) = true) (cx6 : PySem.W.isClsIn K X6 = true) (tx6 : PySem.W.typeIn K (.ref X6) = some (.type "type"))
    (ax7 : PySem.W.nsIn K mainGlobals "NoTerm" = some (some (.ref X7))) (kx7 : PySem.W.keepIn K (.ref X7) = true) (cx7 : PySem.W.isClsIn K X7 = true) (tx7 : PySem.W.typeIn K (.ref X7) = some (.type "type"))
    (ax8 : PySem.W.nsIn K mainGlobals "NoText" = some (some (.ref X8))) (kx8 : PySem.W.keepIn K (.ref X8) = true) (cx8 : PySem.W.isClsIn K X8 = true) (tx8 : PySem.W.typeIn K (.ref X8) = some (.type "type"))
    (ax9 : PySem.W.nsIn K mainGlobals "NoWord" = some (some (.ref X9))) (kx9 : PySem.W.keepIn K (.ref X9) = true) (cx9 : PySem.W.isClsIn K X9 = true) (tx9 : PySem.W.typeIn K (.ref X9) = some (.type "type"))
    (ax10 : PySem.W.nsIn K mainGlobals "NoneYet" = some (some (.ref X10))) (kx10 : PySem.W.keepIn K (.ref X10) = true) (cx10 : PySem.W.isClsIn K X10 = true) (tx10 : PySem.W.typeIn K (.ref X10) = some (.type "type"))
    (ax11 : PySem.W.nsIn K mainGlobals "TooLong" = some (some (.ref X11))) (kx11 : PySem.W.keepIn K (.ref X11) = true) (cx11 : PySem.W.isClsIn K X11 = true) (tx11 : PySem.W.typeIn K (.ref X11) = some (.type "type"))
    (ax12 : PySem.W.nsIn K mainGlobals "TooMany" = some (some (.ref X12))) (kx12 : PySem.W.keepIn K (.ref X12) = true) (cx12 : PySem.W.isClsIn K X12 = true) (tx12 : PySem.W.typeIn K (.ref X12) = some (.type "type"))
    (ax13 : PySem.W.nsIn K mainGlobals "Twice" = some (some (.ref X13))) (kx13 : PySem.W.keepIn K (.ref X13) = true) (cx13 : PySem.W.isClsIn K X13 = true) (tx13 : PySem.W.typeIn K (.ref X13) = some (.type "type"))
    (ss1 : PySem.W.subIn K (.ref X1) (.ref X1) = some true)
    (re1 : PySem.W.excIn K X1 [.type "ValueError", .type "Exception", .type "BaseException", .type "object"] "ValueError.__new__" = true) (rs1 : PySem.W.subIn K (.ref X1) (.type "BaseException") = some true)
    (bp0 : PySem.W.subIn K (.ref X0) (.type "BaseException") = some true)
    (xm0_1 : PySem.W.subIn K (.ref X1) (.ref X0) = some true)
    (eg1 : PySem.W.findIn K (.ref X1) "__getattribute__" = some (some (.builtin "BaseException.__getattribute__"))) (ek1 : PySem.W.findIn K (.ref X1) "__getattr__" = some none) (es1 : PySem.W.subIn K (.ref X1) (.type "BaseException") = some true) (ed1 : PySem.W.hasDictIn K X1 = true) (ea1 : PySem.W.findIn K (.ref X1) "__class__" = some (some (.builtin "object.__class__"))) (en1 : PySem.W.specialIn K (.builtin "object.__class__") "__get__" = some (some (.builtin "getset_descriptor.__get__"))) (et1 : PySem.W.takesIn K (.builtin "object.__class__") = some true) (em1 : PySem.W.mroIn K X1 (.type "object") = some true)
    (sb1_10 : PySem.W.subIn K (.ref X1) (.ref X10) = some false)
    (sb1_9 : PySem.W.subIn K (.ref X1) (.ref X9) = some false)
    (sb1_8 : PySem.W.subIn K (.ref X1) (.ref X8) = some false)
    (sb1_7 : PySem.W.subIn K (.ref X1) (.ref X7) = some false)
    (sb1_6 : PySem.W.subIn K (.ref X1) (.ref X6) = some false)
    (sb1_5 : PySem.W.subIn K (.ref X1) (.ref X5) = some false)
    (sb1_4 : PySem.W.subIn K (.ref X1) (.ref X4) = some false)
    (sb1_3 : PySem.W.subIn K (.ref X1) (.ref X3) = some false)
    (sb1_2 : PySem.W.subIn K (.ref X1) (.ref X2) = some false)
    (sb1_13 : PySem.W.subIn K (.ref X1) (.ref X13) = some false)
    (sb1_12 : PySem.W.subIn K (.ref X1) (.ref X12) = some false)
    (sb1_11 : PySem.W.subIn K (.ref X1) (.ref X11) = some false)
    (sv1_ValueError : PySem.W.subIn K (.ref X1) (.type "ValueError") = some true)
    (z0 : PySem.W.nsIn K mainGlobals "ValueError" = some none)
    (z1 : PySem.W.nsIn K mainGlobals "all" = some none)
    (z2 : PySem.W.nsIn K mainGlobals "dict" = some none)
    (z3 : PySem.W.nsIn K mainGlobals "int" = some none)
    (z4 : PySem.W.nsIn K mainGlobals "isinstance" = some none)
    (z5 : PySem.W.nsIn K mainGlobals "len" = some none)
    (z6 : PySem.W.nsIn K mainGlobals "list" = some none)
    (z7 : PySem.W.nsIn K mainGlobals "max" = some none)
    (z8 : PySem.W.nsIn K mainGlobals "range" = some none)
    (z9 : PySem.W.nsIn K mainGlobals "set" = some none)
    (z10 : PySem.W.nsIn K mainGlobals "tuple" = some none) :
    ∃ fd : FuncData, (∀ (s : Shared) (v : Value), BindsTo s fd ⟨[v], []⟩ [("_law_script", v)]) ∧ ∀ base : Heap, K.In base → base.Ns mainGlobals mg → FnOk l.prog w K mg base CX0 10 fa fd ["_law_script"] (spLaw K) := by
  have e := hfa.symm.trans (PySem.W.mg_of X G a26)
  cases e
  have F0 := fun_mk (st := stUnits_take) l0 c0 k0
  have b0 := F0.binds (ps := ["self", "literal"]) fun _ _ _ _ _ _ us hl => match us, hl with | [_, _], _ => rfl
  have F1 := fun_mk (st := stUnits_moved) l1 c1 k1
  have b1 := F1.binds (ps := ["self", "row", "literal"]) fun _ _ _ _ _ _ us hl => match us, hl with | [_, _, _], _ => rfl
  have F2 := fun_mk (st := stUnits_spread) l2 c2 k2
  have b2 := F2.binds (ps := ["self"]) fun _ _ _ _ _ _ us hl => match us, hl with | [_], _ => rfl
  have F3 := fun_mk (st := stUnits_follows) l3 c3 k3
  have b3 := F3.binds (ps := ["self", "line"]) fun _ _ _ _ _ _ us hl => match us, hl with | [_, _], _ => rfl
  have F4 := fun_mk (st := st_law_bag) l4 c4 k4
  have b4 := F4.binds (ps := ["_law_script"]) fun _ _ _ _ _ _ us hl => match us, hl with | [_], _ => rfl
  have F5 := fun_mk (st := st_law_stir) l5 c5 k5
  have b5 := F5.binds (ps := ["_law_number", "_law_place"]) fun _ _ _ _ _ _ us hl => match us, hl with | [_, _], _ => rfl
  have F6 := fun_mk (st := st_law_draw) l6 c6 k6
  have b6 := F6.binds (ps := ["_law_bag_here", "_law_many"]) fun _ _ _ _ _ _ us hl => match us, hl with | [_, _], _ => rfl
  have F7 := fun_mk (st := st_law_variables) l7 c7 k7
  have b7 := F7.binds (ps := ["_law_bag_here", "_law_many"]) fun _ _ _ _ _ _ us hl => match us, hl with | [_, _], _ => rfl
  have F8 := fun_mk (st := st_law_literal) l8 c8 k8
  have b8 := F8.binds (ps := ["_law_bag_here", "_law_variables_here"]) fun _ _ _ _ _ _ us hl => match us, hl with | [_, _], _ => rfl
  have F9 := fun_mk (st := st_law_clause) l9 c9 k9
  have b9 := F9.binds (ps := ["_law_bag_here", "_law_variables_here", "_law_most"]) fun _ _ _ _ _ _ us hl => match us, hl with | [_, _, _], _ => rfl
  have F10 := fun_mk (st := st_law_shuffled) l10 c10 k10
  have b10 := F10.binds (ps := ["_law_bag_here", "_law_rows"]) fun _ _ _ _ _ _ us hl => match us, hl with | [_, _], _ => rfl
  have F11 := fun_mk (st := st_law_clash) l11 c11 k11
  have b11 := F11.binds (ps := ["_law_clauses", "_law_truths"]) fun _ _ _ _ _ _ us hl => match us, hl with | [_, _], _ => rfl
  have F12 := fun_mk (st := st_law_follows) l12 c12 k12
  have b12 := F12.binds (ps := ["_law_clauses", "_law_line"]) fun _ _ _ _ _ _ us hl => match us, hl with | [_, _], _ => rfl
  have F13 := fun_mk (st := st_law_is_paper) l13 c13 k13
  have b13 := F13.binds (ps := ["_law_clauses", "_law_lines"]) fun _ _ _ _ _ _ us hl => match us, hl with | [_, _], _ => rfl
  have F14 := fun_mk (st := st_law_refutes) l14 c14 k14
  have b14 := F14.binds (ps := ["_law_clauses", "_law_lines", "_law_some"]) fun _ _ _ _ _ _ us hl => match us, hl with | [_, _, _], _ => rfl
  have F15 := fun_mk (st := st_law_full) l15 c15 k15
  have b15 := F15.binds (ps := ["_law_variables_here", "_law_guards"]) fun _ _ _ _ _ _ us hl => match us, hl with | [_, _], _ => rfl
  have F16 := fun_mk (st := st_law_planted) l16 c16 k16
  have b16 := F16.binds (ps := ["_law_bag_here", "_law_variables_here", "_law_guards"]) fun _ _ _ _ _ _ us hl => match us, hl with | [_, _, _], _ => rfl
  have F17 := fun_mk (st := st_law_changed) l17 c17 k17
  have b17 := F17.binds (ps := ["_law_bag_here", "_law_rows", "_law_variables_here"]) fun _ _ _ _ _ _ us hl => match us, hl with | [_, _, _], _ => rfl
  have F18 := fun_mk (st := st_law_less) l18 c18 k18
  have b18 := F18.binds (ps := ["_law_clauses", "_law_lines", "_law_some"]) fun _ _ _ _ _ _ us hl => match us, hl with | [_, _, _], _ => rfl
  have F19 := fun_mk (st := st_law_formed) l19 c19 k19
  have b19 := F19.binds (ps := ["_law_bag_here", "_law_rows"]) fun _ _ _ _ _ _ us hl => match us, hl with | [_, _], _ => rfl
  have F20 := fun_mk (st := stUnits_add_clause) l20 c20 k20
  have b20 := F20.binds (ps := ["self", "clause"]) fun _ _ _ _ _ _ us hl => match us, hl with | [_, _], _ => rfl
  have F21 := fun_mk (st := stUnits_DinitD) l21 c21 k21
  have b21 := F21.binds (ps := ["self", "clauses"]) fun _ _ _ _ _ _ us hl => match us, hl with | [_, _], _ => rfl
  have F22 := fun_mk (st := stall_follow) l22 c22 k22
  have b22 := F22.binds (ps := ["clauses", "lines"]) fun _ _ _ _ _ _ us hl => match us, hl with | [_, _], _ => rfl
  have F23 := fun_mk (st := strefutes) l23 c23 k23
  have bK23 : KBn K (PySem.W.fnOf "refutes" "refutes" (defArgs strefutes) (defBody strefutes) (defScope strefutes) .none (.ref kD23) dc23 pm23 an23 cd23 ct23) ["clauses", "lines", "assumed"] 2 ["assumed"] (fun us ws => us ++ ws) (fun vs zs => vs ++ zs) := ⟨fun s us ws _ h1 h2 => match us, ws, h1, h2 with | [_, _], [_], _, _ => .of_eq rfl, fun r1 r2 => r1.append r2⟩
  have bD23 : Binds K (PySem.W.fnOf "refutes" "refutes" (defArgs strefutes) (defBody strefutes) (defScope strefutes) .none (.ref kD23) dc23 pm23 an23 cd23 ct23) ["clauses", "lines", "assumed"] [.ref kT23] := binds_dflt (FunD.binds0 (kws := [("assumed", V.ref kT23)]) ⟨⟨oc23, od23, .none, .ref kD23, dc23, pm23, an23, cd23, ct23, sl23, rfl, l23, c23, .inl ⟨rfl, rfl⟩, .inr ⟨kD23, rfl, fun q hq => by simp only [List.mem_singleton] at hq; subst hq; exact ⟨_, q23, rfl⟩⟩⟩, k23⟩ 2 (by simp) rfl fun D doc pm an cdv ct us ks h1 h2 => match us, ks, h1, h2 with | [_, _], [_], _, _ => ⟨_, _, _, _, _, _, rfl, rfl, rfl⟩)
  have F24 := fun_mk (st := stmade_less) l24 c24 k24
  have bK24 : KBn K (PySem.W.fnOf "made_less" "made_less" (defArgs stmade_less) (defBody stmade_less) (defScope stmade_less) .none (.ref kD24) dc24 pm24 an24 cd24 ct24) ["clauses", "lines", "assumed"] 2 ["assumed"] (fun us ws => us ++ ws) (fun vs zs => vs ++ zs) := ⟨fun s us ws _ h1 h2 => match us, ws, h1, h2 with | [_, _], [_], _, _ => .of_eq rfl, fun r1 r2 => r1.append r2⟩
  have bD24 : Binds K (PySem.W.fnOf "made_less" "made_less" (defArgs stmade_less) (defBody stmade_less) (defScope stmade_less) .none (.ref kD24) dc24 pm24 an24 cd24 ct24) ["clauses", "lines", "assumed"] [.ref kT24] := binds_dflt (FunD.binds0 (kws := [("assumed", V.ref kT24)]) ⟨⟨oc24, od24, .none, .ref kD24, dc24, pm24, an24, cd24, ct24, sl24, rfl, l24, c24, .inl ⟨rfl, rfl⟩, .inr ⟨kD24, rfl, fun q hq => by simp only [List.mem_singleton] at hq; subst hq; exact ⟨_, q24, rfl⟩⟩⟩, k24⟩ 2 (by simp) rfl fun D doc pm an cdv ct us ks h1 h2 => match us, ks, h1, h2 with | [_, _], [_], _, _ => ⟨_, _, _, _, _, _, rfl, rfl, rfl⟩)
  have F25 := fun_mk (st := st_law_asked) l25 c25 k25
  have b25 := F25.binds (ps := ["_law_clauses", "_law_lines", "_law_some"]) fun _ _ _ _ _ _ us hl => match us, hl with | [_, _, _], _ => rfl
  have F26 := fun_mk (st := stlaw) l26 c26 k26
  have b26 := F26.binds (ps := ["_law_script"]) fun _ _ _ _ _ _ us hl => match us, hl with | [_], _ => rfl
  have T : ClD ⟨K, fun _ => NUnits⟩ mg ⟨C0, X0, X1, X2, X3, X4, X5, X6, X7, X8, X9, X10, X11, X12, X13⟩ := ⟨⟨⟨pg0, hd0, po0, sa0⟩, rfl, by decide +kernel, fun f hf => by
    simp only [NUnits, List.mem_cons, List.not_mem_nil, or_false] at hf
    rcases hf with rfl | rfl | rfl | rfl | rfl
    · exact n0_0
    · exact n0_1
    · exact n0_2
    · exact n0_3
    · exact n0_4⟩,
    ⟨PySem.W.mg_of X G ax0, kx0⟩,
    ⟨PySem.W.mg_of X G ax1, kx1⟩,
    ⟨PySem.W.mg_of X G ax2, kx2⟩,
    ⟨PySem.W.mg_of X G ax3, kx3⟩,
    ⟨PySem.W.mg_of X G ax4, kx4⟩,
    ⟨PySem.W.mg_of X G ax5, kx5⟩,
    ⟨PySem.W.mg_of X G ax6, kx6⟩,
    ⟨PySem.W.mg_of X G ax7, kx7⟩,
    ⟨PySem.W.mg_of X G ax8, kx8⟩,
    ⟨PySem.W.mg_of X G ax9, kx9⟩,
    ⟨PySem.W.mg_of X G ax10, kx10⟩,
    ⟨PySem.W.mg_of X G ax11, kx11⟩,
    ⟨PySem.W.mg_of X G ax12, kx12⟩,
    ⟨PySem.W.mg_of X G ax13, kx13⟩,
    ⟨re1, rs1, tx1⟩,
    fun C hC => by
    simp only [List.mem_cons, List.not_mem_nil, or_false] at hC
    rcases hC with rfl
    · exact exm_sub bp0 cx0 tx0 xm0_1,
    fun p hp => by
    simp only [List.mem_cons, List.not_mem_nil, or_false] at hp
    rcases hp with rfl
    · exact ⟨⟨eg1, ek1, es1, ed1, ea1, en1, et1, em1⟩, (kitAny_cons (kit_sub ss1 cx2 tx2 sb1_2) (fun _ => (kitAny_cons (kit_sub ss1 cx3 tx3 sb1_3) (fun _ => (kitAny_cons (kit_sub ss1 cx4 tx4 sb1_4) (fun _ => (kitAny_cons (kit_sub ss1 cx5 tx5 sb1_5) (fun _ => (kitAny_cons (kit_sub ss1 cx6 tx6 sb1_6) (fun _ => (kitAny_cons (kit_sub ss1 cx7 tx7 sb1_7) (fun _ => (kitAny_cons (kit_sub ss1 cx8 tx8 sb1_8) (fun _ => (kitAny_cons (kit_sub ss1 cx9 tx9 sb1_9) (fun _ => (kitAny_cons (kit_sub ss1 cx10 tx10 sb1_10) (fun _ => rfl) (fun q => by cases q))) (fun q => by cases q))) (fun q => by cases q))) (fun q => by cases q))) (fun q => by cases q))) (fun q => by cases q))) (fun q => by cases q))) (fun q => by cases q))) (fun q => by cases q))⟩,
    fun p hp => by
    simp only [List.mem_cons, List.not_mem_nil, or_false] at hp
    rcases hp with rfl
    · exact ⟨⟨eg1, ek1, es1, ed1, ea1, en1, et1, em1⟩, (kitAny_cons (kit_sub ss1 cx11 tx11 sb1_11) (fun _ => (kitAny_cons (kit_sub ss1 cx12 tx12 sb1_12) (fun _ => (kitAny_cons (kit_sub ss1 cx13 tx13 sb1_13) (fun _ => rfl) (fun q => by cases q))) (fun q => by cases q))) (fun q => by cases q))⟩,
    fun p hp => by
    simp only [List.mem_cons, List.not_mem_nil, or_false] at hp
    rcases hp with rfl
    · exact ⟨⟨eg1, ek1, es1, ed1, ea1, en1, et1, em1⟩, (kit_sub ss1 cx1 tx1 ss1)⟩,
    fun p hp => by
    simp only [List.mem_cons, List.not_mem_nil, or_false] at hp
    rcases hp with rfl
    · exact ⟨⟨eg1, ek1, es1, ed1, ea1, en1, et1, em1⟩, (kit_subT (by decide) sv1_ValueError)⟩⟩
  have B : Bl mg := ⟨PySem.W.mg_none_of X G z0, PySem.W.mg_none_of X G z1, PySem.W.mg_none_of X G z2, PySem.W.mg_none_of X G z3, PySem.W.mg_none_of X G z4, PySem.W.mg_none_of X G z5, PySem.W.mg_none_of X G z6, PySem.W.mg_none_of X G z7, PySem.W.mg_none_of X G z8, PySem.W.mg_none_of X G z9, PySem.W.mg_none_of X G z10⟩
  have U0 : ∀ base, CalM l.prog w ⟨K, fun _ => NUnits⟩ mg base 1 C0 NUnits "take" (spUnits_take ⟨C0, X0, X1, X2, X3, X4, X5, X6, X7, X8, X9, X10, X11, X12, X13⟩) := fun base => ⟨T.Units, by decide +kernel, _, _, _, fnUnits_take B T  F0, ⟨a0, i0, k0⟩, b0⟩
  have U1 : ∀ base, CalM l.prog w ⟨K, fun _ => NUnits⟩ mg base 1 C0 NUnits "moved" (spUnits_moved ⟨C0, X0, X1, X2, X3, X4, X5, X6, X7, X8, X9, X10, X11, X12, X13⟩) := fun base => ⟨T.Units, by decide +kernel, _, _, _, fnUnits_moved B T  F1, ⟨a1, i1, k1⟩, b1⟩
  have U2 : ∀ base, CalM l.prog w ⟨K, fun _ => NUnits⟩ mg base 2 C0 NUnits "spread" (spUnits_spread ⟨C0, X0, X1, X2, X3, X4, X5, X6, X7, X8, X9, X10, X11, X12, X13⟩) := fun base => ⟨T.Units, by decide +kernel, _, _, _, fnUnits_spread B T (U1 base) (U0 base) F2, ⟨a2, i2, k2⟩, b2⟩
  have U3 : ∀ base, CalM l.prog w ⟨K, fun _ => NUnits⟩ mg base 3 C0 NUnits "follows" (spUnits_follows ⟨C0, X0, X1, X2, X3, X4, X5, X6, X7, X8, X9, X10, X11, X12, X13⟩) := fun base => ⟨T.Units, by decide +kernel, _, _, _, fnUnits_follows B T (U0 base) (U2 base) F3, ⟨a3, i3, k3⟩, b3⟩
  have U4 : ∀ base, Cal l.prog w ⟨K, fun _ => NUnits⟩ mg base 1 "_law_bag" (sp_law_bag ⟨C0, X0, X1, X2, X3, X4, X5, X6, X7, X8, X9, X10, X11, X12, X13⟩) := fun base => ⟨_, _, _, fn_law_bag B T  F4, PySem.W.mg_of X G a4, k4, b4⟩
  have U5 : ∀ base, Cal l.prog w ⟨K, fun _ => NUnits⟩ mg base 1 "_law_stir" (sp_law_stir ⟨C0, X0, X1, X2, X3, X4, X5, X6, X7, X8, X9, X10, X11, X12, X13⟩) := fun base => ⟨_, _, _, fn_law_stir B T  F5, PySem.W.mg_of X G a5, k5, b5⟩
  have U6 : ∀ base, Cal l.prog w ⟨K, fun _ => NUnits⟩ mg base 2 "_law_draw" (sp_law_draw ⟨C0, X0, X1, X2, X3, X4, X5, X6, X7, X8, X9, X10, X11, X12, X13⟩) := fun base => ⟨_, _, _, fn_law_draw B T (U5 base) F6, PySem.W.mg_of X G a6, k6, b6⟩
  have U7 : ∀ base, Cal l.prog w ⟨K, fun _ => NUnits⟩ mg base 3 "_law_variables" (sp_law_variables ⟨C0, X0, X1, X2, X3, X4, X5, X6, X7, X8, X9, X10, X11, X12, X13⟩) := fun base => ⟨_, _, _, fn_law_variables B T (U6 base) F7, PySem.W.mg_of X G a7, k7, b7⟩
  have U8 : ∀ base, Cal l.prog w ⟨K, fun _ => NUnits⟩ mg base 3 "_law_literal" (sp_law_literal ⟨C0, X0, X1, X2, X3, X4, X5, X6, X7, X8, X9, X10, X11, X12, X13⟩) := fun base => ⟨_, _, _, fn_law_literal B T (U6 base) F8, PySem.W.mg_of X G a8, k8, b8⟩
  have U9 : ∀ base, Cal l.prog w ⟨K, fun _ => NUnits⟩ mg base 4 "_law_clause" (sp_law_clause ⟨C0, X0, X1, X2, X3, X4, X5, X6, X7, X8, X9, X10, X11, X12, X13⟩) := fun base => ⟨_, _, _, fn_law_clause B T (U6 base) (U8 base) F9, PySem.W.mg_of X G a9, k9, b9⟩
  have U10 : ∀ base, Cal l.prog w ⟨K, fun _ => NUnits⟩ mg base 3 "_law_shuffled" (sp_law_shuffled ⟨C0, X0, X1, X2, X3, X4, X5, X6, X7, X8, X9, X10, X11, X12, X13⟩) := fun base => ⟨_, _, _, fn_law_shuffled B T (U6 base) F10, PySem.W.mg_of X G a10, k10, b10⟩
  have U11 : ∀ base, Cal l.prog w ⟨K, fun _ => NUnits⟩ mg base 1 "_law_clash" (sp_law_clash ⟨C0, X0, X1, X2, X3, X4, X5, X6, X7, X8, X9, X10, X11, X12, X13⟩) := fun base => ⟨_, _, _, fn_law_clash B T  F11, PySem.W.mg_of X G a11, k11, b11⟩
  have U12 : ∀ base, Cal l.prog w ⟨K, fun _ => NUnits⟩ mg base 2 "_law_follows" (sp_law_follows ⟨C0, X0, X1, X2, X3, X4, X5, X6, X7, X8, X9, X10, X11, X12, X13⟩) := fun base => ⟨_, _, _, fn_law_follows B T (U11 base) F12, PySem.W.mg_of X G a12, k12, b12⟩
  have U13 : ∀ base, Cal l.prog w ⟨K, fun _ => NUnits⟩ mg base 3 "_law_is_paper" (sp_law_is_paper ⟨C0, X0, X1, X2, X3, X4, X5, X6, X7, X8, X9, X10, X11, X12, X13⟩) := fun base => ⟨_, _, _, fn_law_is_paper B T (U12 base) F13, PySem.W.mg_of X G a13, k13, b13⟩
  have U14 : ∀ base, Cal l.prog w ⟨K, fun _ => NUnits⟩ mg base 4 "_law_refutes" (sp_law_refutes ⟨C0, X0, X1, X2, X3, X4, X5, X6, X7, X8, X9, X10, X11, X12, X13⟩) := fun base => ⟨_, _, _, fn_law_refutes B T (U13 base) F14, PySem.W.mg_of X G a14, k14, b14⟩
  have U15 : ∀ base, Cal l.prog w ⟨K, fun _ => NUnits⟩ mg base 1 "_law_full" (sp_law_full ⟨C0, X0, X1, X2, X3, X4, X5, X6, X7, X8, X9, X10, X11, X12, X13⟩) := fun base => ⟨_, _, _, fn_law_full B T  F15, PySem.W.mg_of X G a15, k15, b15⟩
  have U16 : ∀ base, Cal l.prog w ⟨K, fun _ => NUnits⟩ mg base 4 "_law_planted" (sp_law_planted ⟨C0, X0, X1, X2, X3, X4, X5, X6, X7, X8, X9, X10, X11, X12, X13⟩) := fun base => ⟨_, _, _, fn_law_planted B T (U10 base) (U15 base) F16, PySem.W.mg_of X G a16, k16, b16⟩
  have U17 : ∀ base, Cal l.prog w ⟨K, fun _ => NUnits⟩ mg base 5 "_law_changed" (sp_law_changed ⟨C0, X0, X1, X2, X3, X4, X5, X6, X7, X8, X9, X10, X11, X12, X13⟩) := fun base => ⟨_, _, _, fn_law_changed B T (U6 base) (U8 base) (U9 base) F17, PySem.W.mg_of X G a17, k17, b17⟩
  have U18 : ∀ base, Cal l.prog w ⟨K, fun _ => NUnits⟩ mg base 5 "_law_less" (sp_law_less ⟨C0, X0, X1, X2, X3, X4, X5, X6, X7, X8, X9, X10, X11, X12, X13⟩) := fun base => ⟨_, _, _, fn_law_less B T (U14 base) F18, PySem.W.mg_of X G a18, k18, b18⟩
  have U19 : ∀ base, Cal l.prog w ⟨K, fun _ => NUnits⟩ mg base 3 "_law_formed" (sp_law_formed ⟨C0, X0, X1, X2, X3, X4, X5, X6, X7, X8, X9, X10, X11, X12, X13⟩) := fun base => ⟨_, _, _, fn_law_formed B T (U6 base) F19, PySem.W.mg_of X G a19, k19, b19⟩
  have U20 : ∀ base, CalM l.prog w ⟨K, fun _ => NUnits⟩ mg base 3 C0 NUnits "add_clause" (spUnits_add_clause ⟨C0, X0, X1, X2, X3, X4, X5, X6, X7, X8, X9, X10, X11, X12, X13⟩) := fun base => ⟨T.Units, by decide +kernel, _, _, _, fnUnits_add_clause B T (U0 base) (U2 base) F20, ⟨a20, i20, k20⟩, b20⟩
  have U21 : ∀ base, CalI l.prog w ⟨K, fun _ => NUnits⟩ mg base 4 C0 "Units" (spUnits_DinitD ⟨C0, X0, X1, X2, X3, X4, X5, X6, X7, X8, X9, X10, X11, X12, X13⟩) := fun base => ⟨_, _, _, fnUnits_DinitD B T (U20 base) F21, ⟨mk0, a21, i21, kc0⟩, PySem.W.mg_of X G aC0, b21⟩
  have U22 : ∀ base, Cal l.prog w ⟨K, fun _ => NUnits⟩ mg base 6 "all_follow" (spall_follow ⟨C0, X0, X1, X2, X3, X4, X5, X6, X7, X8, X9, X10, X11, X12, X13⟩) := fun base => ⟨_, _, _, fnall_follow B T (U21 base) (U3 base) (U20 base) F22, PySem.W.mg_of X G a22, k22, b22⟩
  have UK23 : ∀ base, CalK l.prog w ⟨K, fun _ => NUnits⟩ mg base 7 "refutes" 2 ["assumed"] (sprefutes ⟨C0, X0, X1, X2, X3, X4, X5, X6, X7, X8, X9, X10, X11, X12, X13⟩) := fun base => ⟨_, _, _, fnrefutes B T (U22 base) F23, PySem.W.mg_of X G a23, k23, bK23⟩
  have UK24 : ∀ base, CalKX l.prog w ⟨K, fun _ => NUnits⟩ mg base 8 "made_less" 2 ["assumed"] (spmade_less ⟨C0, X0, X1, X2, X3, X4, X5, X6, X7, X8, X9, X10, X11, X12, X13⟩) := fun base => ⟨_, _, _, fnmade_less B T (UK23 base) (U22 base) F24, PySem.W.mg_of X G a24, k24, bK24⟩
  have UD24 : ∀ base, CalDX l.prog w ⟨K, fun _ => NUnits⟩ mg base 8 "made_less" (spmade_less ⟨C0, X0, X1, X2, X3, X4, X5, X6, X7, X8, X9, X10, X11, X12, X13⟩) := fun base => ⟨_, _, _, kT24, fnmade_less B T (UK23 base) (U22 base) F24, PySem.W.mg_of X G a24, k24, bD24, sqT_nil t24⟩
  have U25 : ∀ base, Cal l.prog w ⟨K, fun _ => NUnits⟩ mg base 9 "_law_asked" (sp_law_asked ⟨C0, X0, X1, X2, X3, X4, X5, X6, X7, X8, X9, X10, X11, X12, X13⟩) := fun base => ⟨_, _, _, fn_law_asked B T (UD24 base) (UK24 base) F25, PySem.W.mg_of X G a25, k25, b25⟩
  refine ⟨(PySem.W.fnOf "law" "law" (defArgs stlaw) (defBody stlaw) (defScope stlaw) .none kV26 dc26 pm26 an26 cd26 ct26), fun s v => .of_eq rfl, fun base _ _ => ?_⟩
  have FL : FnD l.prog w ⟨K, fun _ => NUnits⟩ mg base CX0 10 _ _ ["_law_script"] (splaw ⟨C0, X0, X1, X2, X3, X4, X5, X6, X7, X8, X9, X10, X11, X12, X13⟩) := fnlaw B T (U4 base) (U6 base) (U7 base) (U16 base) (U9 base) (U17 base) (U8 base) (U10 base) (U25 base) (U19 base) (U14 base) (U18 base) F26
  exact FnOk.imp FL fun vs H Q E h => law_start h
theorem walk {l : PySem.W.OpenLaw} {q : Program} {loose : List Str} {XP : (Str → Option Value) → Heap → Prop} {YP : World → Heap → Prop} {d : DefRec} {K : Params → PySem.W.Frag} (hn : l.most = some 63) (hdf : d.params.defaults = [])
    (hY : ∀ (w : World) (h : Heap), YP w h → (K w.params).In h)
    (F : ∀ (w : World) (mg : Str → Option Value) (fa : Addr) (h : Heap), (K w.params).In h → h.Ns mainGlobals mg → mg d.name = some (.ref fa) →
      ∃ fd : FuncData, (∀ (s : Shared) (u : Value), BindsTo s fd ⟨[u], []⟩ [("_law_script", u)]) ∧ ∀ base : Heap, (K w.params).In base → base.Ns mainGlobals mg → FnOk l.prog w (K w.params) mg base CX0 10 fa fd ["_law_script"] (spLaw (K w.params))) :
    PySem.W.WalkO q loose XP YP l.row.toRowW d [] (fun f vs => PySem.call f vs) :=
  L2.walk_of (n := 63) (k := 10) (x := "_law_script") (CX := fun _ => CX0) (sp := fun w => spLaw (K w.params)) hn (by decide) hdf ⟨rfl, by decide, by decide⟩ hY F (fun _ _ a ns hl _ hS => ⟨a, ns, rfl, hS, hl, fun _ => rfl⟩) fun _ _ _ _ _ z => z
end DL
open PySem PySem.W PyProof.Rows
set_option maxRecDepth 100000 in
set_option maxHeartbeats 0 in
theorem PySem.Challenge.cw_pushproof_k36_papers_made_less_holds : PySem.Challenge.rw_pushproof_k36_papers_made_less.Holds := by
  w_on; o_law; k_head; (case hw => w_witness2)
  k_fill
  refine DL.walk (l := PySem.Challenge.rw_pushproof_k36_papers_made_less) rfl rfl (fun w h Y => PySem.W.kIn_of Y) ?F
  case F =>
    intro w mg fa h KX G hmg
    refine' DL.all_mk KX G hmg ?a0 ?i0 ?l0 ?c0 ?k0 ?a1 ?i1 ?l1 ?c1 ?k1 ?a2 ?i2 ?l2 ?c2 ?k2 ?a3 ?i3 ?l3 ?c3 ?k3 ?a4 ?l4 ?c4 ?k4 ?a5 ?l5 ?c5 ?k5 ?a6 ?l6 ?c6 ?k6 ?a7 ?l7 ?c7 ?k7 ?a8 ?l8 ?c8 ?k8 ?a9 ?l9 ?c9 ?k9 ?a10 ?l10 ?c10 ?k10 ?a11 ?l11 ?c11 ?k11 ?a12 ?l12 ?c12 ?k12 ?a13 ?l13 ?c13 ?k13 ?a14 ?l14 ?c14 ?k14 ?a15 ?l15 ?c15 ?k15 ?a16 ?l16 ?c16 ?k16 ?a17 ?l17 ?c17 ?k17 ?a18 ?l18 ?c18 ?k18 ?a19 ?l19 ?c19 ?k19 ?a20 ?i20 ?l20 ?c20 ?k20 ?a21 ?i21 ?l21 ?c21 ?k21 ?a22 ?l22 ?c22 ?k22 ?a23 ?l23 ?c23 ?k23 ?q23 ?t23 ?a24 ?l24 ?c24 ?k24 ?q24 ?t24 ?a25 ?l25 ?c25 ?k25 ?a26 ?l26 ?c26 ?k26 ?aC0 ?pg0 ?hd0 ?po0 ?sa0 ?mk0 ?kc0 ?n0_0 ?n0_1 ?n0_2 ?n0_3 ?n0_4 ?ax0 ?kx0 ?cx0 ?tx0 ?ax1 ?kx1 ?cx1 ?tx1 ?ax2 ?kx2 ?cx2 ?tx2 ?ax3 ?kx3 ?cx3 ?tx3 ?ax4 ?kx4 ?cx4 ?tx4 ?ax5 ?kx5 ?cx5 ?tx5 ?ax6 ?kx6 ?cx6 ?tx6 ?ax7 ?kx7 ?cx7 ?tx7 ?ax8 ?kx8 ?cx8 ?tx8 ?ax9 ?kx9 ?cx9 ?tx9 ?ax10 ?kx10 ?cx10 ?tx10 ?ax11 ?kx11 ?cx11 ?tx11 ?ax12 ?kx12 ?cx12 ?tx12 ?ax13 ?kx13 ?cx13 ?tx13 ?ss1 ?re1 ?rs1 ?bp0 ?xm0_1 ?eg1 ?ek1 ?es1 ?ed1 ?ea1 ?en1 ?et1 ?em1 ?sb1_10 ?sb1_9 ?sb1_8 ?sb1_7 ?sb1_6 ?sb1_5 ?sb1_4 ?sb1_3 ?sb1_2 ?sb1_13 ?sb1_12 ?sb1_11 ?sv1_ValueError ?z0 ?z1 ?z2 ?z3 ?z4 ?z5 ?z6 ?z7 ?z8 ?z9 ?z10
    (case aC0 => k_is)
    (case ax0 => k_is)
    (case ax1 => k_is)
    (case ax2 => k_is)
    (case ax3 => k_is)
    (case ax4 => k_is)
    (case ax5 => k_is)
    (case ax6 => k_is)
    (case ax7 => k_is)
    (case ax8 => k_is)
    (case ax9 => k_is)
    (case ax10 => k_is)
    (case ax11 => k_is)
    (case ax12 => k_is)
    (case ax13 => k_is)
    (case a0 => k_is)
    (case i0 => k_is)
    (case l0 => k_is)
    (case c0 => k_is)
    (case k0 => k_is)
    (case a1 => k_is)
    (case i1 => k_is)
    (case l1 => k_is)
    (case c1 => k_is)
    (case k1 => k_is)
    (case a2 => k_is)
    (case i2 => k_is)
    (case l2 => k_is)
    (case c2 => k_is)
    (case k2 => k_is)
    (case a3 => k_is)
    (case i3 => k_is)
    (case l3 => k_is)
    (case c3 => k_is)
    (case k3 => k_is)
    (case a4 => k_is)
    (case l4 => k_is)
    (case c4 => k_is)
    (case k4 => k_is)
    (case a5 => k_is)
    (case l5 => k_is)
    (case c5 => k_is)
    (case k5 => k_is)
    (case a6 => k_is)
    (case l6 => k_is)
    (case c6 => k_is)
    (case k6 => k_is)
    (case a7 => k_is)
    (case l7 => k_is)
    (case c7 => k_is)
    (case k7 => k_is)
    (case a8 => k_is)
    (case l8 => k_is)
    (case c8 => k_is)
    (case k8 => k_is)
    (case a9 => k_is)
    (case l9 => k_is)
    (case c9 => k_is)
    (case k9 => k_is)
    (case a10 => k_is)
    (case l10 => k_is)
    (case c10 => k_is)
    (case k10 => k_is)
    (case a11 => k_is)
    (case l11 => k_is)
    (case c11 => k_is)
    (case k11 => k_is)
    (case a12 => k_is)
    (case l12 => k_is)
    (case c12 => k_is)
    (case k12 => k_is)
    (case a13 => k_is)
    (case l13 => k_is)
    (case c13 => k_is)
    (case k13 => k_is)
    (case a14 => k_is)
    (case l14 => k_is)
    (case c14 => k_is)
    (case k14 => k_is)
    (case a15 => k_is)
    (case l15 => k_is)
    (case c15 => k_is)
    (case k15 => k_is)
    (case a16 => k_is)
    (case l16 => k_is)
    (case c16 => k_is)
    (case k16 => k_is)
    (case a17 => k_is)
    (case l17 => k_is)
    (case c17 => k_is)
    (case k17 => k_is)
    (case a18 => k_is)
    (case l18 => k_is)
    (case c18 => k_is)
    (case k18 => k_is)
    (case a19 => k_is)
    (case l19 => k_is)
    (case c19 => k_is)
    (case k19 => k_is)
    (case a20 => k_is)
    (case i20 => k_is)
    (case l20 => k_is)
    (case c20 => k_is)
    (case k20 => k_is)
    (case a21 => k_is)
    (case i21 => k_is)
    (case l21 => k_is)
    (case c21 => k_is)
    (case k21 => k_is)
    (case a22 => k_is)
    (case l22 => k_is)
    (case c22 => k_is)
    (case k22 => k_is)
    (case a23 => k_is)
    (case l23 => k_is)
    (case c23 => k_is)
    (case k23 => k_is)
    (case q23 => k_is)
    (case t23 => k_is)
    (case a24 => k_is)
    (case l24 => k_is)
    (case c24 => k_is)
    (case k24 => k_is)
    (case q24 => k_is)
    (case t24 => k_is)
    (case a25 => k_is)
    (case l25 => k_is)
    (case c25 => k_is)
    (case k25 => k_is)
    (case a26 => k_is)
    (case l26 => k_is)
    (case c26 => k_is)
    (case k26 => k_is)
    (case pg0 => k_is)
    (case hd0 => k_is)
    (case po0 => k_is)
    (case sa0 => k_is)
    (case mk0 => k_is)
    (case kc0 => k_is)
    (case n0_0 => k_is)
    (case n0_1 => k_is)
    (case n0_2 => k_is)
    (case n0_3 => k_is)
    (case n0_4 => k_is)
    (case kx0 => k_is)
    (case cx0 => k_is)
    (case tx0 => k_is)
    (case kx1 => k_is)
    (case cx1 => k_is)
    (case tx1 => k_is)
    (case kx2 => k_is)
    (case cx2 => k_is)
    (case tx2 => k_is)
    (case kx3 => k_is)
    (case cx3 => k_is)
    (case tx3 => k_is)
    (case kx4 => k_is)
    (case cx4 => k_is)
    (case tx4 => k_is)
    (case kx5 => k_is)
    (case cx5 => k_is)
    (case tx5 => k_is)
    (case kx6 => k_is)
    (case cx6 => k_is)
    (case tx6 => k_is)
    (case kx7 => k_is)
    (case cx7 => k_is)
    (case tx7 => k_is)
    (case kx8 => k_is)
    (case cx8 => k_is)
    (case tx8 => k_is)
    (case kx9 => k_is)
    (case cx9 => k_is)
    (case tx9 => k_is)
    (case kx10 => k_is)
    (case cx10 => k_is)
    (case tx10 => k_is)
    (case kx11 => k_is)
    (case cx11 => k_is)
    (case tx11 => k_is)
    (case kx12 => k_is)
    (case cx12 => k_is)
    (case tx12 => k_is)
    (case kx13 => k_is)
    (case cx13 => k_is)
    (case tx13 => k_is)
    (case ss1 => k_is)
    (case re1 => k_exc)
    (case rs1 => k_is)
    (case bp0 => k_is)
    (case xm0_1 => k_is)
    (case eg1 => k_is)
    (case ek1 => k_is)
    (case es1 => k_is)
    (case ed1 => k_is)
    (case ea1 => k_is)
    (case en1 => k_is)
    (case et1 => k_is)
    (case em1 => k_is)
    (case sb1_10 => k_is)
    (case sb1_9 => k_is)
    (case sb1_8 => k_is)
    (case sb1_7 => k_is)
    (case sb1_6 => k_is)
    (case sb1_5 => k_is)
    (case sb1_4 => k_is)
    (case sb1_3 => k_is)
    (case sb1_2 => k_is)
    (case sb1_13 => k_is)
    (case sb1_12 => k_is)
    (case sb1_11 => k_is)
    (case sv1_ValueError => k_is)
    (case z0 => k_is)
    (case z1 => k_is)
    (case z2 => k_is)
    (case z3 => k_is)
    (case z4 => k_is)
    (case z5 => k_is)
    (case z6 => k_is)
    (case z7 => k_is)
    (case z8 => k_is)
    (case z9 => k_is)
    (case z10 => k_is)
