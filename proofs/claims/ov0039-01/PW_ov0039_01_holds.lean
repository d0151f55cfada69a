import PyProof.Rows.All
import Wide.All
import OpenK.AllK
import Wide.FinOn
import KE.KTreeO
import KE.KTreeR
import PySem.Challenge.RW_ov0039_01
open PySem PySem.W PyProof.Rows PySem.Spec PySem.Calls
set_option Elab.async false
set_option maxRecDepth 100000
set_option maxHeartbeats 8000000
namespace Mine0
open_top hd for PySem.Challenge.rw_ov0039_01
end Mine0
namespace Mine

/-! the trees -/
inductive Tree where
  | sym (x : Str)
  | vec (k : Int)
  | call (ts : List Tree)
inductive Leaf where
  | s (x : Str)
  | i (k : Int)
mutual
def Tree.leaves : Tree → List Leaf
  | .sym x => [.s x]
  | .vec k => [.i k]
  | .call ts => leavesL ts
def leavesL : List Tree → List Leaf
  | [] => []
  | t :: ts => t.leaves ++ leavesL ts
end
/-- at most D calls deep, at most W parts each -/
def Ok (W : Nat) : Nat → Tree → Prop
  | _, .sym _ => True
  | _, .vec _ => True
  | 0, .call _ => False
  | D + 1, .call ts => ts.length ≤ W ∧ ∀ t ∈ ts, Ok W D t
theorem leavesL_length {W n : Nat} : ∀ {ts : List Tree}, (∀ t ∈ ts, t.leaves.length ≤ n) → (leavesL ts).length ≤ ts.length * n
  | [], _ => by simp [leavesL]
  | t :: ts, h => by
    have h1 := h t (.head _)
    have h2 := leavesL_length (W := W) (ts := ts) fun u hu => h u (.tail _ hu)
    simp only [leavesL, List.length_append, List.length_cons, Nat.add_mul, Nat.one_mul]
    omega
theorem Ok.leaves {W : Nat} (hW : 1 ≤ W) : ∀ {D : Nat} {t : Tree}, Ok W D t → t.leaves.length ≤ W ^ D
  | D, .sym x, _ => by simp only [Tree.leaves, List.length_singleton]; exact Nat.one_le_pow _ _ hW
  | D, .vec k, _ => by simp only [Tree.leaves, List.length_singleton]; exact Nat.one_le_pow _ _ hW
  | 0, .call ts, h => h.elim
  | D + 1, .call ts, h => by
    have h2 := leavesL_length (W := W) (ts := ts) fun u hu => Ok.leaves hW (h.2 u hu)
    simp only [Tree.leaves]
    refine Nat.le_trans h2 ?_
    rw [Nat.pow_succ, Nat.mul_comm]
    exact Nat.mul_le_mul_left _ h.1
theorem leavesL_append (l r : List Tree) : leavesL (l ++ r) = leavesL l ++ leavesL r := by
  induction l with
  | nil => rfl
  | cons t l ih => simp only [List.cons_append, leavesL, ih, List.append_assoc]

/-! how the ledger bears them -/
abbrev ent (P : Params) (k : Str) (t : Tok) (v : Value) : DictEntry := ⟨PyData.keyHash P k, .str k t, v⟩
abbrev symD (P : Params) (x : Str) (t1 t2 t3 t4 t5 : Tok) : Obj := dictOf [ent P (Str.ofString "kind") t1 (.str (Str.ofString "symbol") t2), ent P (Str.ofString "name") t3 (.str x t4), ent P (Str.ofString "attrs") t5 .none] 3
abbrev vecD (P : Params) (l : Addr) (b : Bool) (t1 t2 t3 t4 t5 t6 : Tok) : Obj := dictOf [ent P (Str.ofString "kind") t1 (.str (Str.ofString "integer") t2), ent P (Str.ofString "items") t3 (.ref l), ent P (Str.ofString "attrs") t4 .none, ent P (Str.ofString "shared") t5 (.bool b), ent P (Str.ofString "loose") t6 (.bool false)] 5
abbrev callD (P : Params) (l g : Addr) (t1 t2 t3 t4 t5 t6 : Tok) : Obj := dictOf [ent P (Str.ofString "kind") t1 (.str (Str.ofString "language") t2), ent P (Str.ofString "items") t3 (.ref l), ent P (Str.ofString "tags") t4 (.ref g), ent P (Str.ofString "attrs") t5 .none, ent P (Str.ofString "code") t6 .none] 5
/-- a tag: None or a text -/
def TagV (v : Value) : Prop := v = .none ∨ ∃ x t, v = .str x t
mutual
def TreeIn (P : Params) (news : List (Addr × Obj)) : Tree → Value → Prop
  | .sym x, v => ∃ a d t1 t2 t3 t4 t5, v = .ref a ∧ (a, instObj 67 d) ∈ news ∧ (d, symD P x t1 t2 t3 t4 t5) ∈ news
  | .vec k, v => ∃ a d l b t1 t2 t3 t4 t5 t6 t7 n, v = .ref a ∧ (a, instObj 46 d) ∈ news ∧ (d, vecD P l b t1 t2 t3 t4 t5 t6) ∈ news ∧ (l, listOf #[.int k t7] n) ∈ news
  | .call ts, v => ∃ a d l g vs gs n n' t1 t2 t3 t4 t5 t6, v = .ref a ∧ (a, instObj 89 d) ∈ news ∧ (d, callD P l g t1 t2 t3 t4 t5 t6) ∈ news ∧ (l, listOf (List.toArray vs) n) ∈ news ∧ (g, listOf (List.toArray gs) n') ∈ news ∧
      gs.length = vs.length ∧ (∀ v ∈ gs, TagV v) ∧ TreesIn P news ts vs
def TreesIn (P : Params) (news : List (Addr × Obj)) : List Tree → List Value → Prop
  | [], vs => vs = []
  | t :: ts, vs => ∃ v r, vs = v :: r ∧ TreeIn P news t v ∧ TreesIn P news ts r
end

theorem TreesIn.length {P : Params} {news : List (Addr × Obj)} : ∀ {ts : List Tree} {vs : List Value}, TreesIn P news ts vs → vs.length = ts.length
  | [], vs, h => by simp only [TreesIn] at h; rw [h]; rfl
  | t :: ts, vs, h => by
    simp only [TreesIn] at h
    obtain ⟨v, r, rfl, _, h2⟩ := h
    simp only [List.length_cons, h2.length]
theorem TreesIn.get {P : Params} {news : List (Addr × Obj)} : ∀ {ts : List Tree} {vs : List Value}, TreesIn P news ts vs → ∀ {i : Nat} {v : Value}, vs[i]? = some v → ∃ t, ts[i]? = some t ∧ TreeIn P news t v
  | [], vs, h, i, v, e => by simp only [TreesIn] at h; rw [h] at e; simp at e
  | t :: ts, vs, h, i, v, e => by
    simp only [TreesIn] at h
    obtain ⟨v', r, rfl, h1, h2⟩ := h
    cases i with
    | zero => simp only [List.getElem?_cons_zero, Option.some.injEq] at e ⊢; subst e; exact ⟨t, rfl, h1⟩
    | succ i => simp only [List.getElem?_cons_succ] at e ⊢; exact h2.get e
theorem TreesIn.nil {P : Params} {news : List (Addr × Obj)} : TreesIn P news [] [] := by simp only [TreesIn]
theorem TreesIn.append {P : Params} {news : List (Addr × Obj)} : ∀ {ts us : List Tree} {vs ws : List Value}, TreesIn P news ts vs → TreesIn P news us ws → TreesIn P news (ts ++ us) (vs ++ ws)
  | [], us, vs, ws, h, k => by simp only [TreesIn] at h; rw [h]; exact k
  | t :: ts, us, vs, ws, h, k => by
    simp only [TreesIn] at h
    obtain ⟨v', r, rfl, h1, h2⟩ := h
    simp only [List.cons_append, TreesIn]
    exact ⟨v', _, rfl, h1, h2.append k⟩
theorem TreesIn.one {P : Params} {news : List (Addr × Obj)} {t : Tree} {v : Value} (h : TreeIn P news t v) : TreesIn P news [t] [v] := by
  simp only [TreesIn]
  exact ⟨v, [], rfl, h, rfl⟩
theorem TreesIn.snoc {P : Params} {news : List (Addr × Obj)} {ts : List Tree} {vs : List Value} {t : Tree} {v : Value} (h : TreesIn P news ts vs) (k : TreeIn P news t v) : TreesIn P news (ts ++ [t]) (vs ++ [v]) := h.append (.one k)

/-- the ledger's way on: what stood stands, but that a vector may have been shared -/
def Sh (P : Params) (news news' : List (Addr × Obj)) : Prop :=
  ∀ a o, (a, o) ∈ news → (a, o) ∈ news' ∨ ∃ l b t1 t2 t3 t4 t5 t6, o = vecD P l b t1 t2 t3 t4 t5 t6 ∧ (a, vecD P l true t1 t2 t3 t4 t5 t6) ∈ news'
theorem Sh.refl {P : Params} {news : List (Addr × Obj)} : Sh P news news := fun _ _ h => .inl h
theorem Sh.sub {P : Params} {news news' : List (Addr × Obj)} (h : ∀ p ∈ news, p ∈ news') : Sh P news news' := fun _ _ k => .inl (h _ k)
theorem Sh.trans {P : Params} {n1 n2 n3 : List (Addr × Obj)} (h : Sh P n1 n2) (k : Sh P n2 n3) : Sh P n1 n3 := by
  intro a o m0
  rcases h a o m0 with m | ⟨l, b, t1, t2, t3, t4, t5, t6, rfl, m⟩
  · exact k a o m
  · clear m0
    rcases k _ _ m with m | ⟨l', b', s1, s2, s3, s4, s5, s6, e, m⟩
    · exact .inr ⟨l, b, t1, t2, t3, t4, t5, t6, rfl, m⟩
    · refine .inr ⟨l, b, t1, t2, t3, t4, t5, t6, rfl, ?_⟩
      rw [show vecD P l true t1 t2 t3 t4 t5 t6 = vecD P l' true s1 s2 s3 s4 s5 s6 from ?_]
      · exact m
      · simp only [vecD, dictOf, ent, Obj.mk.injEq, Data.dict.injEq, true_and, and_true, List.toArray, Array.mk.injEq, List.cons.injEq, DictEntry.mk.injEq, Value.str.injEq, Value.ref.injEq, Value.bool.injEq] at e ⊢
        simp only [e, and_self]
theorem Sh.list {P : Params} {news news' : List (Addr × Obj)} (h : Sh P news news') {a : Addr} {its : Array Value} {n : Nat} (m : (a, listOf its n) ∈ news) : (a, listOf its n) ∈ news' := by
  rcases h a _ m with m | ⟨l, b, t1, t2, t3, t4, t5, t6, e, _⟩
  · exact m
  · exact absurd (congrArg Obj.cls e) (by simp)
theorem Sh.inst {P : Params} {news news' : List (Addr × Obj)} (h : Sh P news news') {a : Addr} {C d : Addr} (m : (a, instObj C d) ∈ news) : (a, instObj C d) ∈ news' := by
  rcases h a _ m with m | ⟨l, b, t1, t2, t3, t4, t5, t6, e, _⟩
  · exact m
  · exact absurd (congrArg Obj.cls e) (by simp)
theorem Sh.symD {P : Params} {news news' : List (Addr × Obj)} (h : Sh P news news') {a : Addr} {x : Str} {t1 t2 t3 t4 t5 : Tok} (m : (a, symD P x t1 t2 t3 t4 t5) ∈ news) : (a, Mine.symD P x t1 t2 t3 t4 t5) ∈ news' := by
  rcases h a _ m with m | ⟨l, b, s1, s2, s3, s4, s5, s6, e, _⟩
  · exact m
  · exact absurd (congrArg Obj.data e) (by simp)
theorem Sh.callD {P : Params} {news news' : List (Addr × Obj)} (h : Sh P news news') {a l g : Addr} {t1 t2 t3 t4 t5 t6 : Tok} (m : (a, callD P l g t1 t2 t3 t4 t5 t6) ∈ news) : (a, Mine.callD P l g t1 t2 t3 t4 t5 t6) ∈ news' := by
  rcases h a _ m with m | ⟨l', b, s1, s2, s3, s4, s5, s6, e, _⟩
  · exact m
  · have e1 : (Str.ofString "language") = Str.ofString "integer" := by
      have := congrArg Obj.data e
      simp only [ent, Data.dict.injEq, Array.mk.injEq, List.cons.injEq, DictEntry.mk.injEq, Value.str.injEq] at this
      exact this.1.1.2.2.1
    exact absurd e1 (by decide +kernel)
theorem Sh.vec {P : Params} {news news' : List (Addr × Obj)} (h : Sh P news news') {a l : Addr} {b : Bool} {t1 t2 t3 t4 t5 t6 : Tok} (m : (a, vecD P l b t1 t2 t3 t4 t5 t6) ∈ news) : ∃ b', (a, vecD P l b' t1 t2 t3 t4 t5 t6) ∈ news' := by
  rcases h a _ m with m | ⟨l', b', s1, s2, s3, s4, s5, s6, e, m⟩
  · exact ⟨_, m⟩
  · refine ⟨true, ?_⟩
    rw [show vecD P l true t1 t2 t3 t4 t5 t6 = vecD P l' true s1 s2 s3 s4 s5 s6 from ?_]
    · exact m
    · simp only [vecD, dictOf, ent, Obj.mk.injEq, Data.dict.injEq, true_and, and_true, List.toArray, Array.mk.injEq, List.cons.injEq, DictEntry.mk.injEq, Value.str.injEq, Value.ref.injEq, Value.bool.injEq] at e ⊢
      simp only [e, and_self]
mutual
theorem TreeIn.sh {P : Params} {news news' : List (Addr × Obj)} (h : Sh P news news') : ∀ {t : Tree} {v : Value}, TreeIn P news t v → TreeIn P news' t v
  | .sym x, v, k => by
    simp only [TreeIn] at k ⊢
    obtain ⟨a, d, t1, t2, t3, t4, t5, rfl, h1, h2⟩ := k
    exact ⟨a, d, t1, t2, t3, t4, t5, rfl, h.inst h1, h.symD h2⟩
  | .vec x, v, k => by
    simp only [TreeIn] at k ⊢
    obtain ⟨a, d, l, b, t1, t2, t3, t4, t5, t6, t7, n, rfl, h1, h2, h3⟩ := k
    obtain ⟨b', h2'⟩ := h.vec h2
    exact ⟨a, d, l, b', t1, t2, t3, t4, t5, t6, t7, n, rfl, h.inst h1, h2', h.list h3⟩
  | .call ts, v, k => by
    simp only [TreeIn] at k ⊢
    obtain ⟨a, d, l, g, vs, gs, n, n', t1, t2, t3, t4, t5, t6, rfl, h1, h2, h3, h4, h5, h6, h7⟩ := k
    exact ⟨a, d, l, g, vs, gs, n, n', t1, t2, t3, t4, t5, t6, rfl, h.inst h1, h.callD h2, h.list h3, h.list h4, h5, h6, TreesIn.sh h h7⟩
theorem TreesIn.sh {P : Params} {news news' : List (Addr × Obj)} (h : Sh P news news') : ∀ {ts : List Tree} {vs : List Value}, TreesIn P news ts vs → TreesIn P news' ts vs
  | [], vs, k => by simp only [TreesIn] at k ⊢; exact k
  | t :: ts, vs, k => by
    simp only [TreesIn] at k ⊢
    obtain ⟨v, r, rfl, h1, h2⟩ := k
    exact ⟨v, r, rfl, TreeIn.sh h h1, TreesIn.sh h h2⟩
end
theorem TreeIn.mono {P : Params} {news news' : List (Addr × Obj)} {t : Tree} {v : Value} (k : TreeIn P news t v) (h : ∀ p ∈ news, p ∈ news') : TreeIn P news' t v := k.sh (.sub h)
theorem TreesIn.mono {P : Params} {news news' : List (Addr × Obj)} {t : List Tree} {v : List Value} (k : TreesIn P news t v) (h : ∀ p ∈ news, p ∈ news') : TreesIn P news' t v := k.sh (.sub h)

/-! leaves as values -/
def LeafV (v : Value) : Leaf → Prop
  | .s x => ∃ t, v = .str x t
  | .i k => ∃ t, v = .int k t
def LeafVs : List Value → List Leaf → Prop
  | [], ls => ls = []
  | v :: r, ls => ∃ l m, ls = l :: m ∧ LeafV v l ∧ LeafVs r m
theorem LeafVs.append : ∀ {vs ws : List Value} {ls ms : List Leaf}, LeafVs vs ls → LeafVs ws ms → LeafVs (vs ++ ws) (ls ++ ms)
  | [], ws, ls, ms, h, k => by simp only [LeafVs] at h; subst h; exact k
  | v :: r, ws, ls, ms, h, k => by
    simp only [LeafVs] at h
    obtain ⟨l, m, rfl, h1, h2⟩ := h
    exact ⟨l, _, rfl, h1, h2.append k⟩
theorem LeafVs.length : ∀ {vs : List Value} {ls : List Leaf}, LeafVs vs ls → vs.length = ls.length
  | [], ls, h => by simp only [LeafVs] at h; subst h; rfl
  | v :: r, ls, h => by
    simp only [LeafVs] at h
    obtain ⟨l, m, rfl, h1, h2⟩ := h
    simp only [List.length_cons, h2.length]

/-! frames and the ledger -/
theorem newsSub {h₀ h : Heap} {L : Addr} {l l' : List (Addr × Obj)} (N : News h₀ L h l) (hs : ∀ p ∈ l', p ∈ l) : News h₀ L h l' := fun p hp => N p (hs p hp)
theorem newsInj {h₀ h : Heap} {L a : Addr} {o o' : Obj} {l : List (Addr × Obj)} (N : News h₀ L h l) (h1 : (a, o) ∈ l) (h2 : (a, o') ∈ l) : o = o' := Option.some.inj ((N _ h1).1.symm.trans (N _ h2).1)
def setM (m : Str → Option Value) : List (Str × Value) → Str → Option Value
  | [] => m
  | (x, v) :: r => fun y => if y = x then some v else setM m r y
theorem setM_eq {m : Str → Option Value} : ∀ {l : List (Str × Value)}, (∀ p ∈ l, m p.1 = some p.2) → setM m l = m
  | [], _ => rfl
  | (x, v) :: r, h => by
    funext y
    simp only [setM]
    split
    · rename_i e; subst e; exact (h _ (.head _)).symm
    · rw [setM_eq fun p hp => h p (.tail _ hp)]
theorem frSet {h₀ h : Heap} {L : Addr} {m : Str → Option Value} (F : Fr h₀ L h m) (l : List (Str × Value)) (hs : ∀ p ∈ l, m p.1 = some p.2) : Fr h₀ L h (setM m l) := by rw [setM_eq hs]; exact F

theorem frLoop {h₀ h : Heap} {L : Addr} {m : Str → Option Value} {x : Str} {v : Value} (F : Fr h₀ L h (fun y => if y = x then some v else m y)) (l : List (Str × Value)) (hx : (l.all fun p => !(p.1 == x)) = true) (hs : ∀ p ∈ l, m p.1 = some p.2) :
    Fr h₀ L h (setM (fun y => if y = x then some v else m y) ((x, v) :: l)) := by
  refine frSet F _ fun p hp => ?_
  rcases List.mem_cons.mp hp with rfl | hp
  · simp
  · have h1 := List.all_eq_true.mp hx p hp
    have h2 : ¬ p.1 = x := by simpa using h1
    rw [if_neg h2]
    exact hs p hp
section
variable {α : Type} {P : α → Prop} {a b c d e f : α}
theorem fa1 (h1 : P a) : ∀ p ∈ [a], P p := List.forall_mem_cons.mpr ⟨h1, List.forall_mem_nil _⟩
theorem fa2 (h1 : P a) (h2 : P b) : ∀ p ∈ [a, b], P p := List.forall_mem_cons.mpr ⟨h1, fa1 h2⟩
theorem fa3 (h1 : P a) (h2 : P b) (h3 : P c) : ∀ p ∈ [a, b, c], P p := List.forall_mem_cons.mpr ⟨h1, fa2 h2 h3⟩
theorem fa4 (h1 : P a) (h2 : P b) (h3 : P c) (h4 : P d) : ∀ p ∈ [a, b, c, d], P p := List.forall_mem_cons.mpr ⟨h1, fa3 h2 h3 h4⟩
theorem fa5 (h1 : P a) (h2 : P b) (h3 : P c) (h4 : P d) (h5 : P e) : ∀ p ∈ [a, b, c, d, e], P p := List.forall_mem_cons.mpr ⟨h1, fa4 h2 h3 h4 h5⟩
theorem fa6 (h1 : P a) (h2 : P b) (h3 : P c) (h4 : P d) (h5 : P e) (h6 : P f) : ∀ p ∈ [a, b, c, d, e, f], P p := List.forall_mem_cons.mpr ⟨h1, fa5 h2 h3 h4 h5 h6⟩
end

/-! loops -/
def LStep (h₀ : Heap) (L I : Addr) (it : Obj) (J : (Str → Option Value) → List (Addr × Obj) → Prop) (s : Shared) (Q : Flow → Shared → Prop) (f : Flow) (s₂ : Shared) : Prop :=
  match f with
  | .ret v => Q (.ret v) s₂
  | .brk => Q .next s₂
  | _ => ∃ h' tk m' nx, s₂ = { s with heap := h', toks := tk } ∧ Fr h₀ L h' m' ∧ News h₀ L h' ((I, it) :: nx) ∧ (∀ p ∈ nx, p.1 ≠ I) ∧ J m' nx

/-- the ledger but for one address -/
def offI (I : Addr) (l : List (Addr × Obj)) : List (Addr × Obj) := l.filter fun p => !(p.1 == I)
theorem mem_offI {I : Addr} {l : List (Addr × Obj)} {p : Addr × Obj} : p ∈ offI I l ↔ p ∈ l ∧ p.1 ≠ I := by
  unfold offI
  simp
theorem LStep.next {h₀ h' : Heap} {L I : Addr} {it : Obj} {J : (Str → Option Value) → List (Addr × Obj) → Prop} {s : Shared} {Q : Flow → Shared → Prop} {tk : Nat} {m' : Str → Option Value} {all : List (Addr × Obj)}
    (F : Fr h₀ L h' m') (N : News h₀ L h' all) (hI : (I, it) ∈ all) (hj : J m' (offI I all)) : LStep h₀ L I it J s Q .next { s with heap := h', toks := tk } :=
  ⟨h', tk, m', offI I all, rfl, F, newsSub N (fun p hp => by
    rcases List.mem_cons.mp hp with rfl | hp
    · exact hI
    · exact (mem_offI.mp hp).1), fun p hp => (mem_offI.mp hp).2, hj⟩

section
variable {prog : Program} {w : World} {A : Around} {E : Value → Shared → Prop} {s : Shared} {h₀ : Heap} {L : Addr} {m : Str → Option Value} {news : List (Addr × Obj)}
theorem my_add {l b : Addr} {vs ws : List Value} {n n' : Nat} {Q : Value → Shared → Prop} (F : Fr h₀ L s.heap m) (N : News h₀ L s.heap news) (hl : (l, listOf vs.toArray n) ∈ news) (hb : (b, listOf ws.toArray n') ∈ news) (hsz : vs.length + ws.length ≤ 1000000)
    (h : ∀ a h', Fr h₀ L h' m → News h₀ L h' ((a, listOf (vs ++ ws).toArray 0) :: news) → (∀ p ∈ news, p.1 < a) → Q (.ref a) { s with heap := h' }) :
    wpAny (model prog w) A (binaryOp .Add (.ref l) (.ref b)) Q E s := by
  have h1 : s.heap.IsList l vs.toArray := ⟨_, (N _ hl).1, rfl, n, rfl⟩
  have h2 : s.heap.IsList b ws.toArray := ⟨_, (N _ hb).1, rfl, n', rfl⟩
  refine add_arrays F N h1 h2 (fun h' F' N' => h _ h' F' (by simpa using N') fun p hp => Heap.lt_size (N p hp).1) ?_
  rw [List.size_toArray, List.size_toArray, sizeLine_eq]
  omega
end

section
variable {prog : Program} {w : World} {A : Around} {E : Value → Shared → Prop} {s : Shared} {env : Env} {h₀ : Heap} {x : Str} {body : List Stmt} {Q : Flow → Shared → Prop}
theorem for_list {l : Addr} {vs : List Value} {n : Nat} {m₀ : Str → Option Value} {news : List (Addr × Obj)} (J : Nat → (Str → Option Value) → List (Addr × Obj) → Prop)
    (hh : A.handled = none) (hl : (l, listOf vs.toArray n) ∈ news) (F : Fr h₀ env.locals s.heap m₀) (N : News h₀ env.locals s.heap news) (hj : J 0 m₀ news)
    (hJl : ∀ i m nx, J i m nx → (l, listOf vs.toArray n) ∈ nx)
    (turn : ∀ i v m₁ nx h tk I it, vs[i]? = some v → J i m₁ nx → (∀ p ∈ news, p.1 < I) → (∀ p ∈ nx, p.1 ≠ I) → Fr h₀ env.locals h (fun y => if y = x then some v else m₁ y) → News h₀ env.locals h ((I, it) :: nx) →
      wpAny (model prog w) A (execs body env) (LStep h₀ env.locals I it (J (i + 1)) { s with heap := h, toks := tk } Q) E { s with heap := h, toks := tk })
    (done : ∀ m₁ nx h tk, J vs.length m₁ nx → Fr h₀ env.locals h m₁ → News h₀ env.locals h nx → Q .next { s with heap := h, toks := tk }) :
    wpAny (model prog w) A (pyIter (.ref l)) (fun it s₂ => LoopAtV prog w A h₀ env x body Q E it s₂) E s := by
  have hls : s.heap.IsList l vs.toArray := ⟨_, (N _ hl).1, rfl, n, rfl⟩
  have hlt : l < s.heap.objs.size := Heap.lt_size (N _ hl).1
  have hne : l ≠ s.heap.objs.size := Nat.ne_of_lt hlt
  have hL0 : h₀.get? l = none := (N _ hl).2.2
  refine wpAny_pyIter_list hls ?_
  have W := Walks.list (prog := prog) (w := w) hh s.heap.objs.size l hne vs.toArray
  rw [List.size_toArray] at W
  have hnew := next_is_new F
  refine ⟨_, _, _, vs.length, _, _, m₀, news, J, rfl, W, ?_, ?_, ?_, ⟨⟨_, Heap.get?_push_size _ rfl, rfl, rfl⟩, hls.at fun o e => Heap.get?_push_of_some _ e⟩, F.push _, (fun p hp => ⟨Heap.get?_push_of_some _ (N p hp).1, (N p hp).2⟩), hj, ?_, ?_⟩
  · intro hm
    rcases List.mem_cons.mp hm with e | hm
    · exact absurd F.ns.lt (e ▸ Nat.lt_irrefl _)
    · exact (N _ hl).2.1 (List.mem_singleton.mp hm).symm
  · intro b hb
    rw [List.mem_singleton.mp hb]
    exact hnew
  · intro p hp hI
    exact absurd (Heap.lt_size (N p hp).1) ((List.mem_singleton.mp hI) ▸ Nat.lt_irrefl _)
  · rintro i v m₁ nx s₁ own ⟨hh', tk', rfl⟩ hin hP hJ hoff hown hget hall hst F₁ N₁
    obtain ⟨⟨oi, hoi, _⟩, _⟩ := hst
    have hI : (s.heap.objs.size, oi) ∈ own := hall _ (.head _) hnew oi hoi
    have hoff' : ∀ p ∈ nx, p.1 ≠ s.heap.objs.size := fun p hp e => hoff p hp (List.mem_singleton.mpr e)
    have N₂ : News h₀ env.locals hh' ((s.heap.objs.size, oi) :: nx) := fun p hp => by
      rcases List.mem_cons.mp hp with rfl | hp
      · exact N₁ _ (List.mem_append_left _ hI)
      · exact N₁ _ (List.mem_append_right _ hp)
    have hvs : vs[i]? = some v := by simpa using hP
    refine wpAny_mono (turn i v m₁ nx hh' tk' _ oi hvs hJ (fun p hp => Heap.lt_size (N p hp).1) hoff' F₁ N₂) (fun f s₂ p => ?_) fun _ _ e => e
    have fin : (∃ h' tk m' nx', s₂ = { s with heap := h', toks := tk } ∧ Fr h₀ env.locals h' m' ∧ News h₀ env.locals h' ((s.heap.objs.size, oi) :: nx') ∧ (∀ p ∈ nx', p.1 ≠ s.heap.objs.size) ∧ J (i + 1) m' nx') →
        LoopStepU h₀ env.locals [s.heap.objs.size] own (J (i + 1)) { s with heap := hh', toks := tk' } .next s₂ := by
      rintro ⟨h', tk, m', nx', e, F', N', ho, hj'⟩
      refine ⟨rfl, h', tk, m', nx', e, F', fun p hp => ?_, fun p hp hq => ho p hp (List.mem_singleton.mp hq), hj'⟩
      rcases List.mem_append.mp hp with hp | hp
      · rcases List.mem_cons.mp (hown p hp) with h1 | h1
        · have h2 : p = (s.heap.objs.size, oi) := by
            have h3 := hget p hp
            rw [h1, hoi] at h3
            exact Prod.ext h1 (Option.some.inj h3).symm
          rw [h2]; exact N' _ (.head _)
        · have h1 := List.mem_singleton.mp h1
          have h2 : p = (l, listOf vs.toArray n) := by
            have h3 := hget p hp
            have h4 := (N₂ _ (.tail _ (hJl _ _ _ hJ))).1
            dsimp only at h4
            rw [h1, h4] at h3
            exact Prod.ext h1 (Option.some.inj h3).symm
          rw [h2]; exact N' _ (.tail _ (hJl _ _ _ hj'))
      · exact N' _ (.tail _ hp)
    cases f with
    | ret v => exact .ret p
    | brk => exact .brk p
    | next => exact .next (fin p)
    | cont => exact .cont (fin p)
  · rintro h' tk m' news' F' N' _ hJ
    exact done m' news' h' tk hJ F' N'

theorem for_range {r : Addr} {a₀ b₀ : Int} {t₀ u₀ v₀ : Tok} {n : Nat} {m₀ : Str → Option Value} {news : List (Addr × Obj)} (J : Nat → (Str → Option Value) → List (Addr × Obj) → Prop)
    (hh : A.handled = none) (hr : IsRange s.heap r a₀ b₀ 1 t₀ u₀ v₀) (hsmall : Builtin.Range.small a₀ b₀ 1 = true) (hn : Builtin.Range.rangeSize a₀ b₀ 1 = (n : Int)) (F : Fr h₀ env.locals s.heap m₀) (N : News h₀ env.locals s.heap news) (hj : J 0 m₀ news)
    (turn : ∀ i m₁ nx h tk I it t, i < n → J i m₁ nx → (∀ p ∈ news, p.1 < I) → (∀ p ∈ nx, p.1 ≠ I) → Fr h₀ env.locals h (fun y => if y = x then some (.int (a₀ + (i : Int)) t) else m₁ y) → News h₀ env.locals h ((I, it) :: nx) →
      wpAny (model prog w) A (execs body env) (LStep h₀ env.locals I it (J (i + 1)) { s with heap := h, toks := tk } Q) E { s with heap := h, toks := tk })
    (done : ∀ m₁ nx h tk, J n m₁ nx → Fr h₀ env.locals h m₁ → News h₀ env.locals h nx → Q .next { s with heap := h, toks := tk }) :
    wpAny (model prog w) A (pyIter (.ref r)) (fun it s₂ => LoopAtV prog w A h₀ env x body Q E it s₂) E s := by
  refine wpAny_pyIter_range hr hsmall ?_
  have W : Walks prog w A s.heap.objs.size [s.heap.objs.size] [s.heap.objs.size] n (fun i v => i < n ∧ ∃ t, v = .int (a₀ + i * 1) t)
      (fun i h => IsRangeIter h s.heap.objs.size (a₀ + (i : Nat) * 1) ((n : Int) - (i : Nat)) 1) := (Walks.range hh _ a₀ 1 n).bound
  have hnew := next_is_new F
  refine ⟨_, _, _, n, _, _, m₀, news, J, rfl, W, ?_, ?_, ?_, (by show IsRangeIter _ _ _ _ _; rw [hn]; simpa using Heap.get?_push_size _ rfl), F.push _, (fun p hp => ⟨Heap.get?_push_of_some _ (N p hp).1, (N p hp).2⟩), hj, ?_, ?_⟩
  · intro hm
    exact absurd F.ns.lt ((List.mem_singleton.mp hm) ▸ Nat.lt_irrefl _)
  · intro b hb
    rw [List.mem_singleton.mp hb]
    exact hnew
  · intro p hp hI
    exact absurd (Heap.lt_size (N p hp).1) ((List.mem_singleton.mp hI) ▸ Nat.lt_irrefl _)
  · rintro i v m₁ nx s₁ own ⟨hh', tk', rfl⟩ hin ⟨_, t, rfl⟩ hJ hoff hown hget hall hst F₁ N₁
    have hoi : hh'.get? s.heap.objs.size = some (itR (a₀ + ((i + 1 : Nat) : Int) * 1) ((n : Int) - ((i + 1 : Nat) : Int))) := hst
    have hI := hall _ (.head _) hnew _ hoi
    have hoff' : ∀ p ∈ nx, p.1 ≠ s.heap.objs.size := fun p hp e => hoff p hp (List.mem_singleton.mpr e)
    have N₂ : News h₀ env.locals hh' ((s.heap.objs.size, itR (a₀ + ((i + 1 : Nat) : Int) * 1) ((n : Int) - ((i + 1 : Nat) : Int))) :: nx) := fun p hp => by
      rcases List.mem_cons.mp hp with rfl | hp
      · exact N₁ _ (List.mem_append_left _ hI)
      · exact N₁ _ (List.mem_append_right _ hp)
    have e1 : a₀ + (i : Int) * 1 = a₀ + (i : Int) := by rw [Int.mul_one]
    rw [e1] at F₁
    refine wpAny_mono (turn i m₁ nx hh' tk' _ _ t hin hJ (fun p hp => Heap.lt_size (N p hp).1) hoff' F₁ N₂) (fun f s₂ p => ?_) fun _ _ e => e
    have fin : (∃ h' tk m' nx', s₂ = { s with heap := h', toks := tk } ∧ Fr h₀ env.locals h' m' ∧ News h₀ env.locals h' ((s.heap.objs.size, itR (a₀ + ((i + 1 : Nat) : Int) * 1) ((n : Int) - ((i + 1 : Nat) : Int))) :: nx') ∧ (∀ p ∈ nx', p.1 ≠ s.heap.objs.size) ∧ J (i + 1) m' nx') →
        LoopStepU h₀ env.locals [s.heap.objs.size] own (J (i + 1)) { s with heap := hh', toks := tk' } .next s₂ := by
      rintro ⟨h', tk, m', nx', e, F', N', ho, hj'⟩
      refine ⟨rfl, h', tk, m', nx', e, F', fun p hp => ?_, fun p hp hq => ho p hp (List.mem_singleton.mp hq), hj'⟩
      rcases List.mem_append.mp hp with hp | hp
      · have h1 := List.mem_singleton.mp (hown p hp)
        have h2 : p = (s.heap.objs.size, itR (a₀ + ((i + 1 : Nat) : Int) * 1) ((n : Int) - ((i + 1 : Nat) : Int))) := by
          have h3 := hget p hp
          rw [h1, hoi] at h3
          exact Prod.ext h1 (Option.some.inj h3).symm
        rw [h2]; exact N' _ (.head _)
      · exact N' _ (.tail _ hp)
    cases f with
    | ret v => exact .ret p
    | brk => exact .brk p
    | next => exact .next (fin p)
    | cont => exact .cont (fin p)
  · rintro h' tk m' news' F' N' _ hJ
    exact done m' news' h' tk hJ F' N'
end
/-- the walk stands still here -/
def Hold (P : Prop) : Prop := P
theorem Hold.mk {P : Prop} (h : P) : Hold P := h
theorem hold {P : Prop} (h : Hold P) : P := h

/-- what a def does when it is called with room for dn calls -/
def Tel (w : World) (mean : ExcName → Option Value) (mg mb : Str → Option Value) (f : Addr) (dn : Nat) (vs : List Value) (news : List (Addr × Obj)) (Post : List (Addr × Obj) → Value → Prop) : Prop :=
  ∀ (dp un : Nat) (gd : Option (List Code)) (cn : Str) (cs : Scope) (a : Addr) (ccd : Value) (cl : List (Str × Addr)) (outer : List Env) (A₀ : Around) (base h₀ : Heap) (L : Addr) (m : Str → Option Value) (s : Shared)
    (Q E : Value → Shared → Prop),
    Below A₀ base outer h₀ → Fr h₀ L s.heap m → (Mine0.hd.heap_39 w.params).In h₀ → News h₀ L s.heap news → Top Mine0.hd.view_39 (looseW Mine0.hd.view_39 []) mean mg mb h₀ → cs.kind = .function →
    dp + dn < 900 → un + 3 * dn < 9000 →
    (∀ r news' h' tk', Fr h₀ L h' m → News h₀ L h' news' → Post news' r → Q r { s with heap := h', toks := tk' }) →
    wpAny (model PySem.Challenge.rw_ov0039_01.row.prog w) (ktrTop dp un gd cn cs L a ccd cl outer) (call (.ref f) vs) Q E s
theorem tel_use {w : World} {mean : ExcName → Option Value} {mg mb : Str → Option Value} {f : Addr} {dn : Nat} {vs : List Value} {news all : List (Addr × Obj)} {Post : List (Addr × Obj) → Value → Prop}
    {dp un : Nat} {gd : Option (List Code)} {cn : Str} {cs : Scope} {a : Addr} {ccd : Value} {cl : List (Str × Addr)} {outer : List Env} {A₀ : Around} {base h₀ : Heap} {L : Addr} {m : Str → Option Value} {s : Shared}
    {Q E : Value → Shared → Prop} (C : Tel w mean mg mb f dn vs news Post)
    (B : Below A₀ base outer h₀) (F : Fr h₀ L s.heap m) (X : (Mine0.hd.heap_39 w.params).In h₀) (N : News h₀ L s.heap all) (T : Top Mine0.hd.view_39 (looseW Mine0.hd.view_39 []) mean mg mb h₀) (hk : cs.kind = .function)
    (hd : dp + dn < 900) (hu : un + 3 * dn < 9000) (hs : ∀ p ∈ news, p ∈ all)
    (ret : ∀ r news' h' tk', Fr h₀ L h' m → News h₀ L h' news' → Post news' r → Q r { s with heap := h', toks := tk' }) :
    wpAny (model PySem.Challenge.rw_ov0039_01.row.prog w) (ktrTop dp un gd cn cs L a ccd cl outer) (call (.ref f) vs) Q E s :=
  C _ _ _ _ _ _ _ _ _ _ _ _ _ _ _ _ _ B F X (newsSub N hs) T hk hd hu ret

theorem my_item {prog : Program} {w : World} {A : Around} {E : Value → Shared → Prop} {s : Shared} {h₀ : Heap} {L l : Addr} {news : List (Addr × Obj)} {its : Array Value} {n : Nat} {value slice : Expr} {k : Int} {u : Tok} {v : Value} {Q : Value → Shared → Prop}
    (N : News h₀ L s.heap news) (hl : (l, listOf its n) ∈ news) (h0 : 0 ≤ k) (hhi : k < 2 ^ 63) (hx : its[k.toNat]? = some v) (h : Q v s)
    (hs : subscripted slice false (.ref l) (.int k u) = operate [.ref l, .int k u] (getItem (.ref l) (.int k u)) := by with_unfolding_all rfl) :
    wpAny (model prog w) A (subscriptTail value slice (.ref l) (.int k u)) Q E s :=
  have hL : s.heap.IsList l its := ⟨_, (N _ hl).1, rfl, n, rfl⟩
  tail_any hL.typeIs slot_list_getitem.lookup (wpAny_getItem_list hL h0 hhi hx h) hs

section
variable {prog : Program} {w : World} {A : Around} {E : Value → Shared → Prop} {s : Shared} {h₀ : Heap} {L : Addr} {m : Str → Option Value} {news : List (Addr × Obj)}
/-- append, whatever else the ledger holds -/
theorem my_append {D : Addr} {vs : List Value} {n : Nat} {x : Value} {Q : Value → Shared → Prop} (F : Fr h₀ L s.heap m) (N : News h₀ L s.heap news) (hm : (D, listOf vs.toArray n) ∈ news) (hsz : vs.length ≤ 1000000)
    (h : ∀ h', Fr h₀ L h' m → News h₀ L h' ((D, listOf (vs ++ [x]).toArray (n + 1)) :: offI D news) → Q .none { s with heap := h' }) :
    wpAny (model prog w) A (call (.builtin "list.append") [.ref D, x]) Q E s := by
  have N1 : News h₀ L s.heap ((D, listOf vs.toArray n) :: offI D news) := newsSub N fun p hp => by
    rcases List.mem_cons.mp hp with rfl | hp
    · exact hm
    · exact (mem_offI.mp hp).1
  refine append_K F N1 (Upd.head fun p hp => (mem_offI.mp hp).2) (fun h' F' N' => h h' F' (by simpa using N')) ?_
  rw [List.size_toArray, sizeLine_eq]
  omega
end
section
variable {prog : Program} {w : World} {A : Around} {E : Value → Shared → Prop} {s : Shared} {h₀ : Heap} {L : Addr} {m : Str → Option Value} {news : List (Addr × Obj)}
theorem offCons {D : Addr} {o : Obj} {h : Heap} (N : News h₀ L h news) (hm : (D, o) ∈ news) : News h₀ L h ((D, o) :: offI D news) := newsSub N fun p hp => by
  rcases List.mem_cons.mp hp with rfl | hp
  · exact hm
  · exact (mem_offI.mp hp).1
theorem my_pop {D : Addr} {vs : List Value} {l : List Int} {n : Nat} {Q : Value → Shared → Prop} (F : Fr h₀ L s.heap m) (N : News h₀ L s.heap news) (hm : (D, listOf vs.toArray n) ∈ news) (hi : IntsAre vs l) (hne : 0 < vs.length) (hz : vs.length ≤ 1000000)
    (h : ∀ h' t, Fr h₀ L h' m → News h₀ L h' ((D, listOf vs.dropLast.toArray (n + 1)) :: offI D news) → IntsAre vs.dropLast l.dropLast → Q (.int (l.getLastD 0) t) { s with heap := h' }) :
    wpAny (model prog w) A (call (.builtin "list.pop") [.ref D]) Q E s :=
  kpa_pop F (offCons N hm) (Upd.head fun p hp => (mem_offI.mp hp).2) hi hne (by rw [sizeLine_eq]; omega) h
end
theorem my_len {prog : Program} {w : World} {A : Around} {E : Value → Shared → Prop} {s : Shared} {h₀ : Heap} {L l : Addr} {news : List (Addr × Obj)} {vs : List Value} {n : Nat} {Q : Value → Shared → Prop} (N : News h₀ L s.heap news) (hm : (l, listOf vs.toArray n) ∈ news) (hz : vs.length ≤ 1000000)
    (h : Q (.int (vs.length : Int) (s.toks + 1)) { s with toks := s.toks + 1 + 1 }) : wpAny (model prog w) A (call (.builtin "len") [.ref l]) Q E s := by
  have hL : s.heap.IsList l vs.toArray := ⟨_, (N _ hm).1, rfl, n, rfl⟩
  refine len_list hL ?_ ?_
  · rw [List.size_toArray]; omega
  · rw [List.size_toArray]; exact h
section
variable {prog : Program} {w : World} {A : Around} {E : Value → Shared → Prop} {s : Shared} {h₀ : Heap} {L : Addr} {m : Str → Option Value} {news : List (Addr × Obj)}
theorem my_reverse {D : Addr} {vs : List Value} {n : Nat} {Q : Value → Shared → Prop} (F : Fr h₀ L s.heap m) (N : News h₀ L s.heap news) (hm : (D, listOf vs.toArray n) ∈ news) (hz : vs.length ≤ 1000000)
    (h : ∀ h', Fr h₀ L h' m → News h₀ L h' ((D, listOf vs.reverse.toArray n) :: offI D news) → Q .none { s with heap := h' }) :
    wpAny (model prog w) A (call (.builtin "list.reverse") [.ref D]) Q E s :=
  kl_reverse F (offCons N hm) (by simp) (Upd.head fun p hp => (mem_offI.mp hp).2) (by rw [sizeLine_eq]; simpa using Nat.le_trans hz (by decide)) h
theorem my_extend {D b : Addr} {vs ws : List Value} {n n2 : Nat} {Q : Value → Shared → Prop} (F : Fr h₀ L s.heap m) (N : News h₀ L s.heap news) (hm : (D, listOf vs.toArray n) ∈ news) (hb : (b, listOf ws.toArray n2) ∈ news) (hne : ws ≠ []) (hD : b ≠ D) (hz : vs.length + ws.length ≤ 100000)
    (h : ∀ h', Fr h₀ L h' m → News h₀ L h' ((D, listOf (vs ++ ws).toArray (n + 1)) :: offI D news) → Q .none { s with heap := h' }) :
    wpAny (model prog w) A (call (.builtin "list.extend") [.ref D, .ref b]) Q E s := by
  refine kl_extend F (offCons N hm) (.tail _ (mem_offI.mpr ⟨hb, hD⟩)) (l := vs ++ ws) (by simp) (by simpa using hne) (Upd.head fun p hp => (mem_offI.mp hp).2) ?_ ?_ ?_ h
  · have hs := sizeLine_eq
    simp only [List.size_toArray, Builtin.List.listTooLong]
    simp
    intros
    omega
  · rw [sizeLine_eq]; simp; omega
  · rw [sizeLine_eq]; simp; omega
end
section
variable {prog : Program} {w : World} {A : Around} {E : Value → Shared → Prop} {s : Shared} {env : Env} {h₀ : Heap} {x : Str} {body : List Stmt} {Q : Flow → Shared → Prop}
theorem for_rev {ax I : Addr} {vs : List Value} {n : Nat} {m₀ : Str → Option Value} {news : List (Addr × Obj)} (J : Nat → (Str → Option Value) → List (Addr × Obj) → Prop)
    (hh : A.handled = none) (F : Fr h₀ env.locals s.heap m₀) (N : News h₀ env.locals s.heap ((I, revObj ax ((vs.length : Int) - 1)) :: news)) (hI : ∀ p ∈ news, p.1 < I) (hm : (ax, listOf vs.toArray n) ∈ news) (hj : J 0 m₀ news)
    (hJl : ∀ i m nx, J i m nx → (ax, listOf vs.toArray n) ∈ nx)
    (turn : ∀ i v m₁ nx h tk it, i < vs.length → v ∈ vs → J i m₁ nx → Fr h₀ env.locals h (fun y => if y = x then some v else m₁ y) → News h₀ env.locals h ((I, it) :: nx) →
      wpAny (model prog w) A (execs body env) (LStep h₀ env.locals I it (J (i + 1)) { s with heap := h, toks := tk } Q) E { s with heap := h, toks := tk })
    (done : ∀ m₁ nx h tk, J vs.length m₁ nx → Fr h₀ env.locals h m₁ → News h₀ env.locals h nx → Q .next { s with heap := h, toks := tk }) :
    wpAny (model prog w) A (pyIter (.ref I)) (fun it s₂ => LoopAtV prog w A h₀ env x body Q E it s₂) E s := by
  have off : ∀ {l : List (Addr × Obj)}, (∀ p ∈ l, p.1 < I) → OffI I (revObj ax ((vs.length : Int) - 1)) l := by
    intro l
    induction l with
    | nil => intro _; trivial
    | cons p l ih => intro h; exact ⟨.inl (Nat.ne_of_lt (h p (.head _))), ih fun q hq => h q (.tail _ hq)⟩
  refine iter_revUnr hh F N (off hI) hm rfl rfl ?_
  have gen : ∀ (r : List Value) (i : Nat) (m : Str → Option Value) (nx : List (Addr × Obj)), i + r.length = vs.length → (∀ v ∈ r, v ∈ vs) → J i m nx → RevRest prog w A E h₀ env x body Q s I (ax, listOf vs.toArray n) r m nx := by
    intro r
    induction r with
    | nil =>
      intro i m nx hi _ hJ
      refine RevRest.zero fun h tk F' N' => ?_
      rw [List.length_nil, Nat.add_zero] at hi
      subst hi
      exact done m nx h tk hJ F' N'
    | cons v r ih =>
      intro i m nx hi hv hJ
      refine RevRest.succ fun it h tk _ F' N' => ?_
      rw [List.length_cons] at hi
      refine wpAny_mono (turn i v m nx h tk it (by omega) (hv v (.head _)) hJ F' N') (fun f s₂ p => ?_) fun _ _ e => e
      cases f with
      | ret v => exact p
      | brk => exact p
      | next =>
        obtain ⟨h', tk', m', nx', e, F'', N'', ho, hj'⟩ := p
        exact ⟨h', tk', m', nx', e, F'', N'', ho, hJl _ _ _ hj', ih (i + 1) m' nx' (by omega) (fun v hv' => hv v (.tail _ hv')) hj'⟩
      | cont =>
        obtain ⟨h', tk', m', nx', e, F'', N'', ho, hj'⟩ := p
        exact ⟨h', tk', m', nx', e, F'', N'', ho, hJl _ _ _ hj', ih (i + 1) m' nx' (by omega) (fun v hv' => hv v (.tail _ hv')) hj'⟩
  exact gen _ 0 m₀ news (by simp) (fun v hv => List.mem_reverse.mp hv) hj
end
section
variable {prog : Program} {w : World} {A : Around} {E : Value → Shared → Prop} {s : Shared} {env : Env} {h₀ : Heap} {body : List Stmt} {Q : Flow → Shared → Prop}
theorem for_listT {elts : List Expr} {kk : Nat} {tpos : Pos} {l : Addr} {vs : List Value} {n : Nat} {m₀ : Str → Option Value} {news : List (Addr × Obj)} (J : Nat → (Str → Option Value) → List (Addr × Obj) → Prop)
    (hh : A.handled = none) (hl : (l, listOf vs.toArray n) ∈ news) (F : Fr h₀ env.locals s.heap m₀) (N : News h₀ env.locals s.heap news) (hj : J 0 m₀ news)
    (hJl : ∀ i m nx, J i m nx → (l, listOf vs.toArray n) ∈ nx) (href : ∀ v ∈ vs, ∃ T, v = .ref T)
    (turn : ∀ i v m₁ nx h tk I it, vs[i]? = some v → J i m₁ nx → (∀ p ∈ news, p.1 < I) → (∀ p ∈ nx, p.1 ≠ I) → Fr h₀ env.locals h m₁ → News h₀ env.locals h ((I, it) :: nx) →
      wpAny (model prog w) A (assign (.Tuple elts kk tpos) env v) (fun _ s₃ => wpAny (model prog w) A (execs body env) (LStep h₀ env.locals I it (J (i + 1)) { s with heap := h, toks := tk } Q) E s₃) E { s with heap := h, toks := tk })
    (done : ∀ m₁ nx h tk, J vs.length m₁ nx → Fr h₀ env.locals h m₁ → News h₀ env.locals h nx → Q .next { s with heap := h, toks := tk }) :
    wpAny (model prog w) A (pyIter (.ref l)) (fun it s₂ => TurnsAt prog w A h₀ env (.Tuple elts kk tpos) body Q E it s₂) E s := by
  have hls : s.heap.IsList l vs.toArray := ⟨_, (N _ hl).1, rfl, n, rfl⟩
  have hlt : l < s.heap.objs.size := Heap.lt_size (N _ hl).1
  have hne : l ≠ s.heap.objs.size := Nat.ne_of_lt hlt
  refine wpAny_pyIter_list hls ?_
  have W := Walks.list (prog := prog) (w := w) hh s.heap.objs.size l hne vs.toArray
  rw [List.size_toArray] at W
  have hnew := next_is_new F
  have W2 : KTurns prog w A (.Tuple elts kk tpos) s.heap.objs.size [s.heap.objs.size, l] [s.heap.objs.size] vs.length (fun i v _ => vs.toArray[i]? = some v) (fun i v h => vs.toArray[i]? = some v ∧ (h.IsListIter s.heap.objs.size l (i + 1) ∧ h.IsList l vs.toArray)) (fun i h => h.IsListIter s.heap.objs.size l i ∧ h.IsList l vs.toArray) := {
    sub := W.sub
    frame := W.frame
    item := fun i s Q E hi st hQ => W.item i s Q E hi st fun v h' tk hP st' hk => hQ v h' tk ⟨hP, st'⟩ hk
    go := fun i v s Q E hm hQ => by
      obtain ⟨T, rfl⟩ := href v (by have := hm.1; exact List.mem_of_getElem? (by simpa using this))
      exact wpAny_letOwnedTupleGo_listiter hm.2.1 (hQ s.heap hm.1 hm.2 fun _ _ _ e => e)
    done := W.done }
  refine ⟨_, _, _, vs.length, _, _, _, m₀, news, J, rfl, W2, ?_, ?_, ?_, ⟨⟨_, Heap.get?_push_size _ rfl, rfl, rfl⟩, hls.at fun o e => Heap.get?_push_of_some _ e⟩, F.push _, (fun p hp => ⟨Heap.get?_push_of_some _ (N p hp).1, (N p hp).2⟩), hj, ?_, ?_⟩
  · intro hm
    rcases List.mem_cons.mp hm with e | hm
    · exact absurd F.ns.lt (e ▸ Nat.lt_irrefl _)
    · exact (N _ hl).2.1 (List.mem_singleton.mp hm).symm
  · intro b hb
    rw [List.mem_singleton.mp hb]
    exact hnew
  · intro p hp hI
    exact absurd (Heap.lt_size (N p hp).1) ((List.mem_singleton.mp hI) ▸ Nat.lt_irrefl _)
  · rintro i v m₁ nx hh' tk' own hin hP hJ hoff hown hget hall hst F₁ N₁
    obtain ⟨⟨oi, hoi, _⟩, _⟩ := hst
    have hI : (s.heap.objs.size, oi) ∈ own := hall _ (.head _) hnew oi hoi
    have hoff' : ∀ p ∈ nx, p.1 ≠ s.heap.objs.size := fun p hp e => hoff p hp (List.mem_singleton.mpr e)
    have N₂ : News h₀ env.locals hh' ((s.heap.objs.size, oi) :: nx) := fun p hp => by
      rcases List.mem_cons.mp hp with rfl | hp
      · exact N₁ _ (List.mem_append_left _ hI)
      · exact N₁ _ (List.mem_append_right _ hp)
    have hvs : vs[i]? = some v := by simpa using hP
    refine wpAny_mono (turn i v m₁ nx hh' tk' _ oi hvs hJ (fun p hp => Heap.lt_size (N p hp).1) hoff' F₁ N₂) (fun _ s₃ p3 => wpAny_mono p3 (fun f s₂ p => ?_) fun _ _ e => e) fun _ _ e => e
    have fin : (∃ h' tk m' nx', s₂ = { s with heap := h', toks := tk } ∧ Fr h₀ env.locals h' m' ∧ News h₀ env.locals h' ((s.heap.objs.size, oi) :: nx') ∧ (∀ p ∈ nx', p.1 ≠ s.heap.objs.size) ∧ J (i + 1) m' nx') →
        LoopStepU h₀ env.locals [s.heap.objs.size] own (J (i + 1)) { s with heap := hh', toks := tk' } .next s₂ := by
      rintro ⟨h', tk, m', nx', e, F', N', ho, hj'⟩
      refine ⟨rfl, h', tk, m', nx', e, F', fun p hp => ?_, fun p hp hq => ho p hp (List.mem_singleton.mp hq), hj'⟩
      rcases List.mem_append.mp hp with hp | hp
      · rcases List.mem_cons.mp (hown p hp) with h1 | h1
        · have h2 : p = (s.heap.objs.size, oi) := by
            have h3 := hget p hp
            rw [h1, hoi] at h3
            exact Prod.ext h1 (Option.some.inj h3).symm
          rw [h2]; exact N' _ (.head _)
        · have h1 := List.mem_singleton.mp h1
          have h2 : p = (l, listOf vs.toArray n) := by
            have h3 := hget p hp
            have h4 := (N₂ _ (.tail _ (hJl _ _ _ hJ))).1
            dsimp only at h4
            rw [h1, h4] at h3
            exact Prod.ext h1 (Option.some.inj h3).symm
          rw [h2]; exact N' _ (.tail _ (hJl _ _ _ hj'))
      · exact N' _ (.tail _ hp)
    cases f with
    | ret v => exact .ret p
    | brk => exact .brk p
    | next => exact .next (fin p)
    | cont => exact .cont (fin p)
  · rintro h' tk m' news' F' N' _ hJ
    exact done m' news' h' tk hJ F' N'
end
/-! the table, and what it makes of a tree -/
structure Tab where
  tr : Str → Option Tree
  dots : Option (List Tree)
abbrev dotsS : Str := Str.ofString "..."
def isDots : Tree → Bool
  | .sym x => decide (x = dotsS)
  | _ => false
mutual
def subst (tab : Tab) : Tree → Tree
  | .sym x => if x = dotsS then .sym x else (tab.tr x).getD (.sym x)
  | .vec k => .vec k
  | .call ts => .call (substL tab ts)
def substL (tab : Tab) : List Tree → List Tree
  | [] => []
  | t :: ts => (if isDots t then tab.dots.getD [subst tab t] else [subst tab t]) ++ substL tab ts
end
def spl (tab : Tab) (t : Tree) : List Tree := if isDots t then tab.dots.getD [subst tab t] else [subst tab t]
theorem substL_cons (tab : Tab) (t : Tree) (ts : List Tree) : substL tab (t :: ts) = spl tab t ++ substL tab ts := by rw [substL, spl]
theorem substL_append (tab : Tab) (l r : List Tree) : substL tab (l ++ r) = substL tab l ++ substL tab r := by
  induction l with
  | nil => rfl
  | cons t l ih => rw [List.cons_append, substL_cons, substL_cons, ih, List.append_assoc]
theorem substL_one (tab : Tab) (t : Tree) : substL tab [t] = spl tab t := by rw [substL_cons, substL, List.append_nil]
def RowIn (P : Params) (news : List (Addr × Obj)) : List Tree → List Value → Prop
  | [], vs => vs = []
  | t :: ts, vs => ∃ a tag v r n, vs = .ref a :: r ∧ (a, ({ cls := .type "tuple", data := .seq #[tag, v] n } : Obj)) ∈ news ∧ TagV tag ∧ TreeIn P news t v ∧ RowIn P news ts r
structure KvsIn (P : Params) (news : List (Addr × Obj)) (kvs : List (Str × Value)) (tab : Tab) : Prop where
  tr : ∀ x, x ≠ dotsS → ∀ t, tab.tr x = some t → ∃ v, valueAt kvs x = some v ∧ TreeIn P news t v
  tr0 : ∀ x, x ≠ dotsS → tab.tr x = none → valueAt kvs x = none
  dots : ∀ row, tab.dots = some row → ∃ l vs n, valueAt kvs dotsS = some (.ref l) ∧ (l, listOf (List.toArray vs) n) ∈ news ∧ RowIn P news row vs
  dots0 : tab.dots = none → valueAt kvs dotsS = none
theorem Sh.other {P : Params} {news news' : List (Addr × Obj)} (h : Sh P news news') {a : Addr} {o : Obj} (m : (a, o) ∈ news) (hc : o.cls ≠ .type "dict") : (a, o) ∈ news' := by
  rcases h a _ m with m | ⟨l, b, t1, t2, t3, t4, t5, t6, e, _⟩
  · exact m
  · exact absurd (congrArg Obj.cls e) hc
theorem RowIn.sh {P : Params} {news news' : List (Addr × Obj)} (h : Sh P news news') : ∀ {ts : List Tree} {vs : List Value}, RowIn P news ts vs → RowIn P news' ts vs
  | [], vs, k => k
  | t :: ts, vs, k => by
    obtain ⟨a, tag, v, r, n, e, h1, h2, h3, h4⟩ := k
    exact ⟨a, tag, v, r, n, e, h.other h1 (by simp), h2, h3.sh h, h4.sh h⟩
theorem KvsIn.sh {P : Params} {news news' : List (Addr × Obj)} {kvs : List (Str × Value)} {tab : Tab} (h : Sh P news news') (k : KvsIn P news kvs tab) : KvsIn P news' kvs tab where
  tr := fun x hx t ht => let ⟨v, a, b⟩ := k.tr x hx t ht; ⟨v, a, b.sh h⟩
  tr0 := k.tr0
  dots := fun row hr => let ⟨l, vs, n, a, b, c⟩ := k.dots row hr; ⟨l, vs, n, a, h.list b, c.sh h⟩
  dots0 := k.dots0
theorem RowIn.length {P : Params} {news : List (Addr × Obj)} : ∀ {ts : List Tree} {vs : List Value}, RowIn P news ts vs → vs.length = ts.length
  | [], vs, k => by rw [show vs = [] from k]; rfl
  | t :: ts, vs, k => by
    obtain ⟨a, tag, v, r, n, e, h1, h2, h3, h4⟩ := k
    rw [e, List.length_cons, List.length_cons, h4.length]
theorem RowIn.refs {P : Params} {news : List (Addr × Obj)} : ∀ {ts : List Tree} {vs : List Value}, RowIn P news ts vs → ∀ v ∈ vs, ∃ T, v = .ref T
  | [], vs, k, v, hv => by rw [show vs = [] from k] at hv; cases hv
  | t :: ts, vs, k, v, hv => by
    obtain ⟨a, tag, u, r, n, e, h1, h2, h3, h4⟩ := k
    rw [e] at hv
    rcases List.mem_cons.mp hv with rfl | hv
    · exact ⟨a, rfl⟩
    · exact h4.refs v hv
theorem RowIn.get {P : Params} {news : List (Addr × Obj)} : ∀ {ts : List Tree} {vs : List Value}, RowIn P news ts vs → ∀ {i : Nat} {v : Value}, vs[i]? = some v → ∃ t a tag u n, ts[i]? = some t ∧ v = .ref a ∧ (a, ({ cls := .type "tuple", data := .seq #[tag, u] n } : Obj)) ∈ news ∧ TagV tag ∧ TreeIn P news t u
  | [], vs, k, i, v, e => by rw [show vs = [] from k] at e; simp at e
  | t :: ts, vs, k, i, v, e => by
    obtain ⟨a, tag, u, r, n, e', h1, h2, h3, h4⟩ := k
    rw [e'] at e
    cases i with
    | zero =>
      simp only [List.getElem?_cons_zero, Option.some.injEq] at e
      exact ⟨t, a, tag, u, n, rfl, e.symm, h1, h2, h3⟩
    | succ i =>
      simp only [List.getElem?_cons_succ] at e ⊢
      exact h4.get e
theorem spl_length {tab : Tab} (hrow : ∀ row, tab.dots = some row → row.length ≤ 2) (t : Tree) : (spl tab t).length ≤ 2 := by
  unfold spl
  split
  · cases h : tab.dots with
    | none => simp
    | some row => exact hrow row h
  · simp
theorem substL_length {tab : Tab} (hrow : ∀ row, tab.dots = some row → row.length ≤ 2) : ∀ ts : List Tree, (substL tab ts).length ≤ 2 * ts.length
  | [] => by simp [substL]
  | t :: ts => by
    have h1 := spl_length hrow t
    have h2 := substL_length hrow ts
    rw [substL_cons, List.length_append, List.length_cons]
    omega
/-- what a test that only looks gives -/
def TestP (bb : Bool) (s : Shared) (b : Bool) (s₂ : Shared) : Prop := b = bb ∧ ∃ tk, s₂ = { s with toks := tk }
def hasDots (tab : Tab) (t : Tree) : Bool := isDots t && tab.dots.isSome
theorem TestP.mk {bb b : Bool} {s : Shared} {tk : Nat} (h : b = bb) : TestP bb s b { s with toks := tk } := ⟨h, tk, rfl⟩
theorem if_test {M : Model} {A : Around} {E : Value → Shared → Prop} {s : Shared} {env : Env} {test : Expr} {body orelse : List Stmt} {pos : Pos} {Q : Flow → Shared → Prop} (bb : Bool)
    (h1 : wpAny M A (isTrue test env (eval test env)) (TestP bb s) E s)
    (h2 : ∀ tk, if bb = true then wpAny M A (execs body env) Q E { s with toks := tk } else wpAny M A (execs orelse env) Q E { s with toks := tk }) :
    wpAny M A (exec (.If test body orelse pos) env) Q E s := by
  refine wpAny_If (wpAny_mono h1 (fun b s₂ h => ?_) fun _ _ h => h)
  obtain ⟨rfl, tk, rfl⟩ := h
  exact h2 tk
theorem spl_no {tab : Tab} {t : Tree} (h : hasDots tab t = false) : spl tab t = [subst tab t] := by
  unfold hasDots at h
  unfold spl
  split
  · rename_i h1
    rw [h1, Bool.true_and] at h
    cases hd : tab.dots with
    | none => rfl
    | some row => rw [hd] at h; cases h
  · rfl
theorem spl_yes {tab : Tab} {t : Tree} (h : hasDots tab t = true) : ∃ row, tab.dots = some row ∧ spl tab t = row := by
  unfold hasDots at h
  obtain ⟨h1, h2⟩ := Bool.and_eq_true_iff.mp h
  obtain ⟨row, hr⟩ := Option.isSome_iff_exists.mp h2
  exact ⟨row, hr, by unfold spl; rw [if_pos h1, hr]; rfl⟩
/-- what a loop that fills items and tags keeps -/
def SubJ (P : Params) (il tg : Addr) (frm rest nx : List (Addr × Obj)) (us : List Tree) : Prop :=
  ∃ its gts n1 n2 rest', (il, listOf (List.toArray its) n1) ∈ nx ∧ (tg, listOf (List.toArray gts) n2) ∈ nx ∧ (∀ p ∈ frm, p ∈ nx) ∧ (∀ p ∈ rest', p ∈ nx) ∧ Sh P rest rest' ∧ TreesIn P rest' us its ∧ gts.length = its.length ∧ (∀ v ∈ gts, TagV v) ∧
    (∀ p ∈ frm, ∀ q ∈ rest', p.1 ≠ q.1) ∧ ∀ q ∈ rest', q.1 ≠ il ∧ q.1 ≠ tg
theorem SubJ.snoc {P : Params} {il tg I : Addr} {frm rest rest' news7 : List (Addr × Obj)} {us : List Tree} {its gts : List Value} {n1 n2 : Nat} {t : Tree} {r tag : Value} (hil : il ≠ tg) (hIil : il ≠ I) (hItg : tg ≠ I)
    (hfI : ∀ p ∈ frm, p.1 ≠ I ∧ p.1 ≠ il ∧ p.1 ≠ tg) (hf : ∀ p ∈ frm, p ∈ news7) (hr : ∀ p ∈ rest', p ∈ news7) (hsh : Sh P rest rest') (hT : TreesIn P rest' us its) (ht : TreeIn P rest' t r) (hgl : gts.length = its.length) (hgt : ∀ v ∈ gts, TagV v) (htag : TagV tag)
    (hd : ∀ p ∈ frm, ∀ q ∈ rest', p.1 ≠ q.1) (ho : ∀ q ∈ rest', q.1 ≠ il ∧ q.1 ≠ tg) (hoI : ∀ q ∈ rest', q.1 ≠ I) :
    SubJ P il tg frm rest (offI I ((tg, listOf (List.toArray (gts ++ [tag])) n2) :: offI tg ((il, listOf (List.toArray (its ++ [r])) n1) :: offI il news7))) (us ++ [t]) := by
  refine ⟨its ++ [r], gts ++ [tag], n1, n2, rest', mem_offI.mpr ⟨.tail _ (mem_offI.mpr ⟨.head _, hil⟩), hIil⟩, mem_offI.mpr ⟨.head _, hItg⟩, ?_, ?_, hsh, hT.snoc ht, ?_, ?_, hd, ho⟩
  · exact fun p hp => mem_offI.mpr ⟨.tail _ (mem_offI.mpr ⟨.tail _ (mem_offI.mpr ⟨hf p hp, (hfI p hp).2.1⟩), (hfI p hp).2.2⟩), (hfI p hp).1⟩
  · exact fun p hp => mem_offI.mpr ⟨.tail _ (mem_offI.mpr ⟨.tail _ (mem_offI.mpr ⟨hr p hp, (ho p hp).1⟩), (ho p hp).2⟩), hoI p hp⟩
  · rw [List.length_append, List.length_append, hgl]
    rfl
  · intro v hv
    rcases List.mem_append.mp hv with hv | hv
    · exact hgt v hv
    · rw [List.mem_singleton.mp hv]; exact htag
theorem SubJ.outer {P : Params} {il tg I : Addr} {it : Obj} {frm rest0 rest nx : List (Addr × Obj)} {us : List Tree} (h : SubJ P il tg ((I, it) :: frm) rest nx us) (h0 : Sh P rest0 rest) (hIil : il ≠ I) (hItg : tg ≠ I) (hfI : ∀ p ∈ frm, p.1 ≠ I) : SubJ P il tg frm rest0 (offI I nx) us := by
  obtain ⟨its, gts, n1, n2, rest', a1, a2, a3, a4, a5, a6, a7, a8, a9, a10⟩ := h
  exact ⟨its, gts, n1, n2, rest', mem_offI.mpr ⟨a1, hIil⟩, mem_offI.mpr ⟨a2, hItg⟩, fun p hp => mem_offI.mpr ⟨a3 p (.tail _ hp), hfI p hp⟩, fun p hp => mem_offI.mpr ⟨a4 p hp, (a9 _ (.head _) p hp).symm⟩, h0.trans a5, a6, a7, a8, fun p hp => a9 p (.tail _ hp), a10⟩
local macro_rules | `(tactic| walk_at "eval ListComp") => `(tactic| (refine hold ?_))
local macro_rules | `(tactic| k_mem) => `(tactic| first | with_reducible assumption | exact List.Mem.head _ | (refine List.mem_cons_of_mem _ ?_; k_mem))
local macro_rules | `(tactic| k_all) => `(tactic| with_reducible assumption)
local macro_rules | `(tactic| walk_at "subscriptTail") => `(tactic| first
  | ((with_reducible show wpAny _ _ (subscriptTail _ _ (Value.ref _) (Value.str _ _)) _ _ _); refine hold ?_)
  | ((with_reducible show wpAny _ _ (subscriptTail _ _ (Value.ref _) (Value.int _ _)) _ _ _); first | (k_here; (with_unfolding_all refine' my_item ?k1 ?k2 ?k3 ?k4 ?k5 ?_ ?k6; (case k1 => k_asm); (case k2 => k_mem); (case k3 => decide); (case k4 => decide); (case k5 => rfl); (case k6 => with_unfolding_all rfl); k_whole)) | refine hold ?_)
  | fail "walk on")
local macro_rules | `(tactic| walk_at "compareOp In str ref") => `(tactic| (refine hold ?_))
local macro_rules | `(tactic| walk_at "call builtin:len") => `(tactic| ((with_reducible show wpAny _ _ (call (Value.builtin "len") [Value.ref _]) _ _ _); refine hold ?_))
local macro_rules | `(tactic| walk_at "call builtin:list.reverse") => `(tactic| (refine hold ?_))
local macro_rules | `(tactic| walk_at "call builtin:list.extend") => `(tactic| (refine hold ?_))
local macro_rules | `(tactic| walk_at "call builtin:list.pop") => `(tactic| (refine hold ?_))
local macro_rules | `(tactic| walk_at "call builtin:list.append") => `(tactic| (refine hold ?_))
local macro_rules | `(tactic| walk_at "enter 39") => `(tactic| k_dflt (refine' code_def ?k1 ?k2 ?k3 ?k4 ?k5 ?kA ?kF ?kK ?k6 ?k7 ?k8 ?k9 ?kB ?_ ?c2 ?c3 ?c4 ?c5; (case kA => exact rfl); (case kF => exact rfl); (case kK => first | exact rfl | assumption); (case k1 => k_asm); (case k2 => k_asm); (case k3 => k_asm); (case k4 => k_asm); (case k5 => k_asm); (case k6 => k_is); (case k7 => k_is); (case k8 => ktr_room); (case k9 => first | exact BindsTo.of_eq rfl | exact binds_K (by k_in) rfl (by k_is) rfl rfl rfl); (case c5 => decide); (case kB => exact locs rfl); (case c2 => exact rfl); (case c3 => exact rfl); (case c4 => exact rfl); k_whole; intro g' L' h' FG' F' N' B' X' T'; (try dsimp only); (try k_fold)))
local macro_rules | `(tactic| walk_at "exec For") => `(tactic| (k_here; (with_reducible rename Fr _ _ _ _ => lF'); (with_unfolding_all refine' For_invVF lF' ?k1 ?k2 ?_; (case k1 => exact rfl); (case k2 => exact rfl); k_whole)))
local macro_rules | `(tactic| walk_at "exec For Name Name cons nil") => `(tactic| walk_at "exec For")
local macro_rules | `(tactic| walk_at "exec For Name Call cons nil") => `(tactic| walk_at "exec For")
local macro_rules | `(tactic| walk_at "exec For Name Attribute cons nil") => `(tactic| walk_at "exec For")
local macro_rules | `(tactic| walk_at "exec For Tuple Subscript cons nil") => `(tactic| (k_here; (with_reducible rename Fr _ _ _ _ => lF'); (with_unfolding_all refine' For_turns lF' ?_; k_whole)))
local macro_rules | `(tactic| walk_at "pyIter ref") => `(tactic| ((with_reducible show wpAny _ _ (pyIter (Value.ref _)) _ _ _); refine hold ?_))
local macro_rules | `(tactic| walk_at "call type:range") => `(tactic| ((with_reducible show wpAny _ _ (call (Value.type "range") [Value.int _ _]) _ _ _); refine hold ?_))
local macro_rules | `(tactic| walk_at "make 39") => `(tactic| (k_here; k_dflt (refine' call_cls ?k1 ?k2 ?k3 ?k4 ?k5 ?k6 ?_; (case k1 => k_asm); (case k2 => k_asm); (case k3 => k_asm); (case k4 => k_is); (case k5 => k_is); (case k6 => k_is); k_whole; intro x' d' h' F' N' l1 l2; (try k_lt l1); (try k_lt2 l2); (try k_sweep); walk_at "enter 39")))
local macro_rules | `(tactic| walk_at "call ref") => `(tactic| first
  | ((with_reducible show wpAny _ _ (call (Value.ref 156) _) _ _ _); refine hold ?_)
  | ((with_reducible show wpAny _ _ (call (Value.ref 114) _) _ _ _); refine hold ?_)
  | ((with_reducible show wpAny _ _ (call (Value.ref 121) _) _ _ _); refine hold ?_)
  | ((with_reducible show wpAny _ _ (call (Value.ref 128) _) _ _ _); refine hold ?_)
  | ((with_reducible show wpAny _ _ (call (Value.ref 135) _) _ _ _); refine hold ?_)
  | ((with_reducible show wpAny _ _ (call (Value.ref 142) _) _ _ _); refine hold ?_)
  | ((with_reducible show wpAny _ _ (call (Value.ref 149) _) _ _ _); refine hold ?_)
  | ((with_reducible show wpAny _ _ (call (Value.ref 163) _) _ _ _); refine hold ?_)
  | ((with_reducible show wpAny _ _ (call (Value.ref 168) _) _ _ _); refine hold ?_)
  | ((with_reducible show wpAny _ _ (call (Value.ref 100) _) _ _ _); refine hold ?_)
  | (k_here; (with_reducible show wpAny _ _ (call (Value.ref 107) _) _ _ _); refine wpAny_call ?_; walk_at "enter 39")
  | ((with_reducible show wpAny _ _ (call (Value.ref 46) _) _ _ _); walk_at "make 39")
  | ((with_reducible show wpAny _ _ (call (Value.ref 67) _) _ _ _); walk_at "make 39")
  | ((with_reducible show wpAny _ _ (call (Value.ref 89) _) _ _ _); walk_at "make 39")
  | fail "walk on")



/-! _law_leaves -/
def LeavesP (t : Tree) (news news' : List (Addr × Obj)) (r : Value) : Prop :=
  ∃ l lv n, r = .ref l ∧ (l, listOf (List.toArray lv) n) ∈ news' ∧ LeafVs lv t.leaves ∧ (∀ p ∈ news, p ∈ news') ∧ ∀ p ∈ news, p.1 ≠ l

theorem tel_leaves {w : World} {mean : ExcName → Option Value} {mg mb : Str → Option Value} : ∀ (D : Nat) (t : Tree) (v : Value) (news : List (Addr × Obj)), Ok 6 D t → D ≤ 6 → TreeIn w.params news t v →
    Tel w mean mg mb 156 (D + 2) [v] news (LeavesP t news) := by
  have leaf : ∀ (D : Nat) (t : Tree) (v : Value) (news : List (Addr × Obj)), (∀ ts, t ≠ .call ts) → TreeIn w.params news t v → Tel w mean mg mb 156 (D + 2) [v] news (LeavesP t news) := by
    intro D t v news hok R
    intro dp un gd cn cs a ccd cl outer A₀ base h₀ L m s Q E B F X N T hk hd hu ret
    revert X; k_fill; intro X
    refine wpAny_call ?_
    have hrl : dp < recursionLimit := by unfold recursionLimit; omega
    cases t with
    | sym x =>
      simp only [TreeIn] at R
      obtain ⟨a1, d1, t1, t2, t3, t4, t5, rfl, h1, h2⟩ := R
      k_dflt ktr_enter
      k_steps
      refine ret _ _ _ _ (by assumption) (by assumption) ⟨_, [.str x t4], _, rfl, .head _, ⟨_, _, rfl, ⟨_, rfl⟩, rfl⟩, fun p hp => .tail _ hp, ?_⟩
      rename (∀ p ∈ news, _ < _) => hlt
      exact fun p hp => Nat.ne_of_lt (hlt p hp)
    | vec k =>
      simp only [TreeIn] at R
      obtain ⟨a1, d1, l1, b, t1, t2, t3, t4, t5, t6, t7, n, rfl, h1, h2, h3⟩ := R
      k_dflt ktr_enter
      k_steps
      refine ret _ _ _ _ (by assumption) (by assumption) ⟨_, [.int k t7], _, rfl, .head _, ⟨_, _, rfl, ⟨_, rfl⟩, rfl⟩, fun p hp => .tail _ hp, ?_⟩
      rename (∀ p ∈ news, _ < _) => hlt
      exact fun p hp => Nat.ne_of_lt (hlt p hp)
    | call ts => exact absurd rfl (hok ts)
  intro D
  induction D with
  | zero =>
    intro t v news hok hD R
    cases t with
    | sym x => exact leaf _ _ v _ (fun _ e => nomatch e) R
    | vec k => exact leaf _ _ v _ (fun _ e => nomatch e) R
    | call ts => exact hok.elim
  | succ D ih => 
    intro t v news hok hD R
    cases t with
    | sym x => exact leaf _ _ v _ (fun _ e => nomatch e) R
    | vec k => exact leaf _ _ v _ (fun _ e => nomatch e) R
    | call ts =>
      intro dp un gd cn cs a ccd cl outer A₀ base h₀ L m s Q E B F X N T hk hd hu ret
      revert X; k_fill; intro X
      refine wpAny_call ?_
      have hrl : dp < recursionLimit := by unfold recursionLimit; omega
      have hbig : ∀ t ∈ ts, t.leaves.length ≤ 6 ^ D := fun t ht => (hok.2 t ht).leaves (by decide)
      have hpow : 6 ^ D ≤ 6 ^ 5 := Nat.pow_le_pow_right (by decide) (by omega)
      have hlen : ts.length ≤ 6 := hok.1
      simp only [TreeIn] at R
      obtain ⟨a1, d1, l1, g, vs, gs, n, n', t1, t2, t3, t4, t5, t6, rfl, h1, h2, h3, h4, h5, h6, h7⟩ := R
      k_dflt ktr_enter
      k_steps
      rename Fr _ _ _ _ => F1
      rename News _ _ _ _ => N1
      rename (∀ p ∈ news, _ < _) => hlt
      let J : Nat → (Str → Option Value) → List (Addr × Obj) → Prop := fun i m nx => m (Str.ofString "e") = some (.ref a1) ∧ ∃ fl lv n, m (Str.ofString "found") = some (.ref fl) ∧ (fl, listOf (List.toArray lv) n) ∈ nx ∧ LeafVs lv (leavesL (ts.take i)) ∧ (∀ p ∈ news, p ∈ nx) ∧ (∀ p ∈ news, p.1 ≠ fl)
      k_dflt (refine' for_list J rfl (List.mem_cons_of_mem _ h3) F1 N1 ⟨rfl, _, [], _, rfl, .head _, by simp [LeafVs, leavesL], fun p hp => .tail _ hp, fun p hp => Nat.ne_of_lt (hlt p hp)⟩ (fun i m nx hj => by obtain ⟨_, _, _, _, _, _, _, q, _⟩ := hj; exact q _ h3) ?turn ?done)
      case turn => 
        rintro i v m1 nx h tk I it hv ⟨hme, fl, lv, nl, hmf, hfl, hlv, hsub, hne⟩ hI1 hI2 F2 N2
        obtain ⟨t, ht, hT⟩ := h7.get hv
        have F3 := frSet F2 [(Str.ofString "each", v), (Str.ofString "e", .ref a1), (Str.ofString "found", .ref fl)] (by simp only [List.forall_mem_cons]; refine ⟨by simp, ?_, ?_, by simp⟩ <;> (rw [if_neg (by decide)]; assumption))
        clear F2 F1 N1
        show wpAny _ _ _ _ _ _
        try k_fold
        k_steps
        refine Hold.mk ?_
        have hokt : Ok 6 D t := hok.2 t (List.mem_of_getElem? ht)
        k_dflt (refine' tel_use (ih t v ((I, it) :: nx) hokt (by omega) (hT.mono fun p hp => .tail _ (hsub p hp))) ?k1 ?k2 ?k3 ?k4 ?k5 ?k6 ?k7 ?k8 ?k9 ?_)
        case k1 => k_asm
        case k2 => k_asm
        case k3 => k_asm
        case k4 => k_asm
        case k5 => k_asm
        case k6 => rfl
        case k7 => show dp + 1 + _ < _; omega
        case k8 => show un + 3 + _ < _; omega
        case k9 => exact fun p hp => hp
        rintro r news' h' tk' F4 N4 ⟨l2, lv2, n2, rfl, hl2, hlv2, hsub2, hne2⟩
        have hI0 : (I, it) ∈ news' := hsub2 _ (.head _)
        refine my_add F4 N4 (hsub2 _ (.tail _ hfl)) hl2 ?_ ?_
        · have b1 := leavesL_length (W := 6) (n := 6 ^ D) (ts := ts.take i) fun t ht => hbig t (List.mem_of_mem_take ht)
          have b2 := hbig t (List.mem_of_getElem? ht)
          have b3 : (ts.take i).length ≤ 6 := Nat.le_trans (List.length_take_le' _ _) hlen
          have b4 := Nat.mul_le_mul b3 hpow
          have b5 := Nat.mul_le_mul_left (ts.take i).length hpow
          rw [hlv.length, hlv2.length]
          omega
        intro a2 h2' F5 N5 hlt5
        k_steps
        refine LStep.next (by assumption) (by assumption) (.tail _ hI0) ⟨rfl, a2, lv ++ lv2, _, rfl, mem_offI.mpr ⟨.head _, Nat.ne_of_gt (hlt5 _ hI0)⟩, ?_, fun p hp => mem_offI.mpr ⟨.tail _ (hsub2 _ (.tail _ (hsub p hp))), hI2 p (hsub p hp)⟩, fun p hp => Nat.ne_of_lt (hlt5 p (hsub2 _ (.tail _ (hsub p hp))))⟩
        rw [List.take_add_one, ht, leavesL_append]
        exact hlv.append (by simpa [leavesL] using hlv2)
      case done =>
        rintro m1 nx h tk ⟨hme, fl, lv, nl, hmf, hfl, hlv, hsub, hne⟩ F2 N2
        have F3 := frSet F2 [(Str.ofString "found", .ref fl)] (by simp only [List.forall_mem_cons]; exact ⟨hmf, by simp⟩)
        clear F2 F1 N1
        show wpAny _ _ _ _ _ _
        try k_fold
        k_steps
        refine ret _ _ _ _ (by assumption) (by assumption) ⟨fl, lv, _, rfl, hfl, ?_, hsub, hne⟩
        rw [h7.length, List.take_length] at hlv
        simpa only [Tree.leaves] using hlv
/-! add_names -/
def isS : Leaf → Bool
  | .s _ => true
  | .i _ => false
def texts (ls : List Leaf) : List Leaf := ls.filter isS
theorem texts_append (l r : List Leaf) : texts (l ++ r) = texts l ++ texts r := List.filter_append ..
def AddP (t : Tree) (fl : Addr) (vs : List Value) (rest : List (Addr × Obj)) (news' : List (Addr × Obj)) (r : Value) : Prop :=
  r = .none ∧ ∃ lv n, (fl, listOf (List.toArray (vs ++ lv)) n) ∈ news' ∧ LeafVs lv (texts t.leaves) ∧ ∀ p ∈ rest, p ∈ news'
def Named (t : Tree) : Prop := ∀ x, Leaf.s x ∈ t.leaves → x ≠ Str.ofString ""

theorem mem_leavesL {l : Leaf} : ∀ {ts : List Tree} {t : Tree}, t ∈ ts → l ∈ t.leaves → l ∈ leavesL ts
  | u :: ts, t, h, k => by
    rw [leavesL]
    rcases List.mem_cons.mp h with rfl | h
    · exact List.mem_append_left _ k
    · exact List.mem_append_right _ (mem_leavesL h k)
theorem leavesL_take : ∀ {ts : List Tree} {i : Nat} {t : Tree}, ts[i]? = some t → (leavesL (ts.take i)).length + t.leaves.length ≤ (leavesL ts).length
  | u :: ts, 0, t, h => by
    simp only [List.getElem?_cons_zero, Option.some.injEq] at h
    subst h
    simp [leavesL]
  | u :: ts, i + 1, t, h => by
    simp only [List.getElem?_cons_succ] at h
    have := leavesL_take h
    simp only [List.take_succ_cons, leavesL, List.length_append]
    omega
theorem tel_add {w : World} {mean : ExcName → Option Value} {mg mb : Str → Option Value} : ∀ (D : Nat) (t : Tree) (v : Value) (rest : List (Addr × Obj)) (fl : Addr) (vs : List Value) (n : Nat), Ok 6 D t → Named t → D ≤ 6 → TreeIn w.params rest t v →
    (∀ p ∈ rest, p.1 ≠ fl) → vs.length + t.leaves.length ≤ 1000000 →
    Tel w mean mg mb 114 (D + 3) [v, .bool true, .ref fl] ((fl, listOf (List.toArray vs) n) :: rest) (AddP t fl vs rest) := by
  have leaf : ∀ (D : Nat) (t : Tree) (v : Value) (rest : List (Addr × Obj)) (fl : Addr) (vs : List Value) (n : Nat), (∀ ts, t ≠ .call ts) → Named t → TreeIn w.params rest t v → (∀ p ∈ rest, p.1 ≠ fl) → vs.length + t.leaves.length ≤ 1000000 →
    Tel w mean mg mb 114 (D + 3) [v, .bool true, .ref fl] ((fl, listOf (List.toArray vs) n) :: rest) (AddP t fl vs rest) := by
    intro D t v rest fl vs n hok hnm R hne hsz
    intro dp un gd cn cs a ccd cl outer A₀ base h₀ L m s Q E B F X N T hk hd hu ret
    revert X; k_fill; intro X
    refine wpAny_call ?_
    have hrl : dp < recursionLimit := by unfold recursionLimit; omega
    have hrl2 : dp + 1 < recursionLimit := by unfold recursionLimit; omega
    cases t with
    | sym x =>
      have hx : x ≠ Str.ofString "" := hnm x (by simp [Tree.leaves])
      simp only [TreeIn] at R
      obtain ⟨a1, d1, t1, t2, t3, t4, t5, rfl, h1, h2⟩ := R
      walk_at "enter 39"
      k_steps
      · refine Hold.mk ?_
        rename Fr _ _ _ _ => F1
        rename News _ _ _ _ => N1
        refine my_append F1 N1 (.head _) (by omega) ?_
        intro h2' F2 N2
        k_steps
        refine ret _ _ _ _ (by assumption) (by assumption) ⟨rfl, [.str x t4], _, .head _, ⟨_, _, rfl, ⟨_, rfl⟩, rfl⟩, fun p hp => .tail _ (mem_offI.mpr ⟨.tail _ hp, hne p hp⟩)⟩
      · rename (x != Str.ofString "") = false => hq
        exact absurd (by simpa using hq) hx
    | vec k =>
      simp only [TreeIn] at R
      obtain ⟨a1, d1, l1, b, t1, t2, t3, t4, t5, t6, t7, nn, rfl, h1, h2, h3⟩ := R
      walk_at "enter 39"
      k_steps
      refine Hold.mk ?_
      rename Fr _ _ _ _ => F1
      rename News _ _ _ _ => N1
      k_dflt (refine' for_list (fun _ _ nx => ∀ p ∈ (_, listOf (List.toArray []) 0) :: (fl, listOf (List.toArray vs) n) :: rest, p ∈ nx) rfl (.head _) F1 N1 (fun p hp => hp) (fun _ _ _ hj => hj _ (.head _)) (fun i v _ _ _ _ _ _ e => by simp at e) ?_)
      rintro m1 nx h tk hj F2 N2
      show wpAny _ _ _ _ _ _
      k_steps
      refine ret _ _ _ _ (by assumption) (by assumption) ⟨rfl, [], _, by rw [List.append_nil]; exact hj _ (.tail _ (.head _)), rfl, fun p hp => hj p (.tail _ (.tail _ hp))⟩
    | call ts => exact absurd rfl (hok ts)
  intro D
  induction D with
  | zero =>
    intro t v rest fl vs n hok hnm hD R hne hsz
    cases t with
    | sym x => exact leaf _ _ v _ _ _ _ (fun _ e => nomatch e) hnm R hne hsz
    | vec k => exact leaf _ _ v _ _ _ _ (fun _ e => nomatch e) hnm R hne hsz
    | call ts => exact hok.elim
  | succ D ih => 
    intro t v rest fl vs0 n0 hok hnm hD R hne hsz
    cases t with
    | sym x => exact leaf _ _ v _ _ _ _ (fun _ e => nomatch e) hnm R hne hsz
    | vec k => exact leaf _ _ v _ _ _ _ (fun _ e => nomatch e) hnm R hne hsz
    | call ts =>
      intro dp un gd cn cs a ccd cl outer A₀ base h₀ L m s Q E B F X N T hk hd hu ret
      revert X; k_fill; intro X
      refine wpAny_call ?_
      have hrl : dp < recursionLimit := by unfold recursionLimit; omega
      have hrl2 : dp + 1 < recursionLimit := by unfold recursionLimit; omega
      simp only [TreeIn] at R
      obtain ⟨a1, d1, l1, g, vs, gs, n, n', t1, t2, t3, t4, t5, t6, rfl, h1, h2, h3, h4, h5, h6, h7⟩ := R
      have hllt : l1 ≠ fl := hne _ h3
      walk_at "enter 39"
      k_steps
      refine Hold.mk ?_
      rename Fr _ _ _ _ => F1
      rename News _ _ _ _ => N1
      let J : Nat → (Str → Option Value) → List (Addr × Obj) → Prop := fun i m nx => m (Str.ofString "functions") = some (.bool true) ∧ m (Str.ofString "found") = some (.ref fl) ∧ ∃ lv n, (fl, listOf (List.toArray (vs0 ++ lv)) n) ∈ nx ∧ LeafVs lv (texts (leavesL (ts.take i))) ∧ ∀ p ∈ rest, p ∈ nx
      k_dflt (refine' for_list J rfl (.tail _ h3) F1 N1 ⟨rfl, rfl, [], n0, (by rw [List.append_nil]; exact .head _), (by simp [LeafVs, leavesL, texts]), fun p hp => .tail _ hp⟩ (fun i m nx hj => by obtain ⟨_, _, _, _, _, _, q⟩ := hj; exact q _ h3) ?turn ?done)
      case turn => 
        rintro i v m1 nx h tk I it hv ⟨hm1, hm2, lv, nl, hfl, hlv, hsub⟩ hI1 hI2 F2 N2
        obtain ⟨t, ht, hT⟩ := h7.get hv
        have F3 := frSet F2 [(Str.ofString "part", v), (Str.ofString "functions", .bool true), (Str.ofString "found", .ref fl)] (by simp only [List.forall_mem_cons]; refine ⟨by simp, ?_, ?_, by simp⟩ <;> (rw [if_neg (by decide)]; assumption))
        clear F2 F1 N1
        show wpAny _ _ _ _ _ _
        try k_fold
        k_steps
        refine Hold.mk ?_
        have hokt : Ok 6 D t := hok.2 t (List.mem_of_getElem? ht)
        have hnmt : Named t := fun x hx => hnm x (by rw [Tree.leaves]; exact mem_leavesL (List.mem_of_getElem? ht) hx)
        have hIfl : I ≠ fl := fun e => hI2 _ hfl e.symm
        have hlen : (vs0 ++ lv).length + t.leaves.length ≤ 1000000 := by
          have b1 := hlv.length
          have b2 : (texts (leavesL (ts.take i))).length ≤ (leavesL (ts.take i)).length := List.length_filter_le _ _
          have b3 := leavesL_take ht
          have b4 : (Tree.call ts).leaves.length = (leavesL ts).length := by rw [Tree.leaves]
          rw [List.length_append]
          omega
        k_dflt (refine' tel_use (ih t v ((I, it) :: offI fl (rest ++ nx)) fl (vs0 ++ lv) nl hokt hnmt (by omega) (hT.mono fun p hp => .tail _ (mem_offI.mpr ⟨List.mem_append_left _ hp, hne p hp⟩)) (fun p hp => by rcases List.mem_cons.mp hp with rfl | hp; exact hIfl; exact (mem_offI.mp hp).2) hlen) ?k1 ?k2 ?k3 ?k4 ?k5 ?k6 ?k7 ?k8 ?k9 ?_)
        case k1 => k_asm
        case k2 => k_asm
        case k3 => k_asm
        case k4 => k_asm
        case k5 => k_asm
        case k6 => rfl
        case k7 => show dp + 1 + _ < _; omega
        case k8 => show un + 3 + _ < _; omega
        case k9 =>
          intro p hp
          rcases List.mem_cons.mp hp with rfl | hp
          · exact .tail _ hfl
          · rcases List.mem_cons.mp hp with rfl | hp
            · exact .head _
            · rcases List.mem_append.mp (mem_offI.mp hp).1 with hp | hp
              · exact .tail _ (hsub p hp)
              · exact .tail _ hp
        rintro r news' h' tk' F4 N4 ⟨rfl, lv2, n2, hl2, hlv2, hsub2⟩
        k_steps
        refine LStep.next (by assumption) (by assumption) (hsub2 _ (.head _)) ⟨rfl, rfl, lv ++ lv2, n2, mem_offI.mpr ⟨by rw [← List.append_assoc]; exact hl2, Ne.symm hIfl⟩, ?_, fun p hp => mem_offI.mpr ⟨hsub2 p (.tail _ (mem_offI.mpr ⟨List.mem_append_left _ hp, hne p hp⟩)), hI2 p (hsub p hp)⟩⟩
        rw [List.take_add_one, ht, leavesL_append, texts_append]
        exact hlv.append (by simpa [leavesL] using hlv2)
      case done =>
        rintro m1 nx h tk ⟨hm1, hm2, lv, nl, hfl, hlv, hsub⟩ F2 N2
        clear F1 N1
        show wpAny _ _ _ _ _ _
        try k_fold
        k_steps
        refine ret _ _ _ _ (by assumption) (by assumption) ⟨rfl, lv, _, hfl, ?_, hsub⟩
        rw [h7.length, List.take_length] at hlv
        simpa only [Tree.leaves] using hlv

/-! all_names -/
def NamesP (t : Tree) (news news' : List (Addr × Obj)) (r : Value) : Prop :=
  ∃ l lv n, r = .ref l ∧ (l, listOf (List.toArray lv) n) ∈ news' ∧ LeafVs lv (texts t.leaves) ∧ ∀ p ∈ news, p ∈ news'
theorem tel_all {w : World} {mean : ExcName → Option Value} {mg mb : Str → Option Value} (D : Nat) (t : Tree) (v : Value) (news : List (Addr × Obj)) (hok : Ok 6 D t) (hnm : Named t) (hD : D ≤ 6) (R : TreeIn w.params news t v) (hsz : t.leaves.length ≤ 1000000) :
    Tel w mean mg mb 121 (D + 4) [v, .bool true] news (NamesP t news) := by
  intro dp un gd cn cs a ccd cl outer A₀ base h₀ L m s Q E B F X N T hk hd hu ret
  revert X; k_fill; intro X
  refine wpAny_call ?_
  have hrl : dp < recursionLimit := by unfold recursionLimit; omega
  walk_at "enter 39"
  k_steps
  refine Hold.mk ?_
  rename (∀ p ∈ news, _ < _) => hlt
  k_dflt (refine' tel_use (tel_add D t v news _ [] 0 hok hnm hD R (fun p hp => Nat.ne_of_lt (hlt p hp)) (by simpa using hsz)) ?k1 ?k2 ?k3 ?k4 ?k5 ?k6 ?k7 ?k8 ?k9 ?_)
  case k1 => k_asm
  case k2 => k_asm
  case k3 => k_asm
  case k4 => k_asm
  case k5 => k_asm
  case k6 => rfl
  case k7 => show dp + 1 + _ < _; omega
  case k8 => show un + 3 + _ < _; omega
  case k9 => exact fun p hp => hp
  rintro r news' h' tk' F4 N4 ⟨rfl, lv2, n2, hl2, hlv2, hsub2⟩
  k_steps
  exact ret _ _ _ _ (by assumption) (by assumption) ⟨_, lv2, _, rfl, by simpa using hl2, hlv2, hsub2⟩

/-! _law_pull -/
def PullP (st : Addr) (mo : Int) (len : Nat) (rest : List (Addr × Obj)) (news' : List (Addr × Obj)) (r : Value) : Prop :=
  ∃ k tk vs l n, r = .int k tk ∧ 0 ≤ k ∧ k < mo ∧ IntsAre vs l ∧ vs.length ≤ len ∧ (st, listOf (List.toArray vs) n) ∈ news' ∧ ∀ p ∈ rest, p ∈ news'
theorem tel_pull {w : World} {mean : ExcName → Option Value} {mg mb : Str → Option Value} (st : Addr) (vs : List Value) (l : List Int) (n : Nat) (mo : Int) (tk : Tok) (rest : List (Addr × Obj)) (hi : IntsAre vs l) (hz : vs.length ≤ 1000) (hmo : 0 < mo) (hne : ∀ p ∈ rest, p.1 ≠ st) :
    Tel w mean mg mb 142 2 [.ref st, .int mo tk] ((st, listOf (List.toArray vs) n) :: rest) (PullP st mo vs.length rest) := by
  intro dp un gd cn cs a ccd cl outer A₀ base h₀ L m s Q E B F X N T hk hd hu ret
  revert X; k_fill; intro X
  refine wpAny_call ?_
  have hrl : dp < recursionLimit := by unfold recursionLimit; omega
  walk_at "enter 39"
  k_steps
  refine Hold.mk ?_
  rename News _ _ _ _ => N1
  refine my_len N1 (.head _) (by omega) ?_
  try dsimp only
  have hmo0 : mo ≠ 0 := by omega
  k_steps
  · refine ret _ _ _ _ (by assumption) (by assumption) ⟨0, _, vs, l, n, rfl, by omega, hmo, hi, Nat.le_refl _, .head _, fun p hp => .tail _ hp⟩
  · rename ((vs.length : Int) ≠ 0) => hl0
    refine Hold.mk ?_
    rename Fr _ _ _ _ => F2
    k_dflt (refine' my_pop F2 N1 (.head _) hi (by omega) (by omega) ?_)
    intro h3 t3 F3 N3 hi3
    k_steps
    have b1 : 0 ≤ (l.getLastD 0).fmod mo := Int.fmod_nonneg_of_pos _ hmo
    have b2 : (l.getLastD 0).fmod mo < mo := Int.fmod_lt_of_pos _ hmo
    refine ret _ _ _ _ (by assumption) (by assumption) ⟨_, _, vs.dropLast, l.dropLast, n + 1, rfl, b1, b2, hi3, by rw [List.length_dropLast]; omega, .head _, fun p hp => .tail _ (mem_offI.mpr ⟨.tail _ hp, hne p hp⟩)⟩

/-! _law_tree -/
/-- a name of the menu -/
def Menu (t : Tree) : Prop := ∀ x, Leaf.s x ∈ t.leaves → x = Str.ofString "f" ∨ x = Str.ofString "x" ∨ x = Str.ofString "y" ∨ x = Str.ofString "..."
def TreeP (P : Params) (st : Addr) (R len : Nat) (rest : List (Addr × Obj)) (news' : List (Addr × Obj)) (r : Value) : Prop :=
  ∃ t tl vs l n, TreeIn P tl t r ∧ Ok 3 R t ∧ Menu t ∧ IntsAre vs l ∧ vs.length ≤ len ∧ (st, listOf (List.toArray vs) n) ∈ news' ∧ (∀ p ∈ rest, p ∈ news') ∧ (∀ p ∈ tl, p ∈ news') ∧ ∀ p ∈ tl, p.1 ≠ st ∧ ∀ q ∈ rest, q.1 ≠ p.1
theorem of_mem_leavesL {l : Leaf} : ∀ {ts : List Tree}, l ∈ leavesL ts → ∃ t ∈ ts, l ∈ t.leaves
  | [], h => by simp [leavesL] at h
  | u :: ts, h => by
    rw [leavesL] at h
    rcases List.mem_append.mp h with h | h
    · exact ⟨u, .head _, h⟩
    · obtain ⟨t, ht, h⟩ := of_mem_leavesL h
      exact ⟨t, .tail _ ht, h⟩
theorem TreeP.sym {P : Params} {st x' d' : Addr} {R len n : Nat} {rest news3 : List (Addr × Obj)} {x : Str} {t1 t2 t3 t4 t5 : Tok} {vs : List Value} {l : List Int} (hlt : ∀ p ∈ news3, p.1 < d') (hl2 : d' < x') (hst : (st, listOf (List.toArray vs) n) ∈ news3) (hrest : ∀ p ∈ rest, p ∈ news3)
    (hi : IntsAre vs l) (hlen : vs.length ≤ len) (hx : x = Str.ofString "f" ∨ x = Str.ofString "x" ∨ x = Str.ofString "y" ∨ x = Str.ofString "...") :
    TreeP P st R len rest ((x', instObj 67 d') :: (d', symD P x t1 t2 t3 t4 t5) :: news3) (.ref x') := by
  refine ⟨.sym x, [(x', instObj 67 d'), (d', symD P x t1 t2 t3 t4 t5)], vs, l, n, ?_, ?_, ?_, hi, hlen, .tail _ (.tail _ hst), fun p hp => .tail _ (.tail _ (hrest p hp)), ?_, ?_⟩
  · simp only [TreeIn]
    exact ⟨x', d', t1, t2, t3, t4, t5, rfl, .head _, .tail _ (.head _)⟩
  · cases R <;> trivial
  · intro y hy
    simp only [Tree.leaves, List.mem_singleton, Leaf.s.injEq] at hy
    rw [hy]; exact hx
  · intro p hp
    simp only [List.mem_cons, List.not_mem_nil, or_false] at hp
    rcases hp with rfl | rfl
    · exact .head _
    · exact .tail _ (.head _)
  · intro p hp
    have a1 : st < d' := hlt _ hst
    simp only [List.mem_cons, List.not_mem_nil, or_false] at hp
    rcases hp with rfl | rfl
    · exact ⟨Nat.ne_of_gt (Nat.lt_trans a1 hl2), fun q hq => Nat.ne_of_lt (Nat.lt_trans (hlt q (hrest q hq)) hl2)⟩
    · exact ⟨Nat.ne_of_gt a1, fun q hq => Nat.ne_of_lt (hlt q (hrest q hq))⟩
theorem TreeP.vec {P : Params} {st x' d' l' : Addr} {R len n nl : Nat} {k : Int} {rest news3 : List (Addr × Obj)} {t1 t2 t3 t4 t5 t6 t7 : Tok} {vs : List Value} {l : List Int} (hlt0 : ∀ p ∈ news3, p.1 < l') (hlt : l' < d') (hl2 : d' < x') (hst : (st, listOf (List.toArray vs) n) ∈ news3) (hrest : ∀ p ∈ rest, p ∈ news3)
    (hi : IntsAre vs l) (hlen : vs.length ≤ len) :
    TreeP P st R len rest ((x', instObj 46 d') :: (d', vecD P l' false t1 t2 t3 t4 t5 t6) :: (l', listOf #[.int k t7] nl) :: news3) (.ref x') := by
  refine ⟨.vec k, [(x', instObj 46 d'), (d', vecD P l' false t1 t2 t3 t4 t5 t6), (l', listOf #[.int k t7] nl)], vs, l, n, ?_, ?_, ?_, hi, hlen, .tail _ (.tail _ (.tail _ hst)), fun p hp => .tail _ (.tail _ (.tail _ (hrest p hp))), ?_, ?_⟩
  · simp only [TreeIn]
    exact ⟨x', d', l', false, t1, t2, t3, t4, t5, t6, t7, nl, rfl, .head _, .tail _ (.head _), .tail _ (.tail _ (.head _))⟩
  · cases R <;> trivial
  · intro y hy
    simp [Tree.leaves] at hy
  · intro p hp
    simp only [List.mem_cons, List.not_mem_nil, or_false] at hp
    rcases hp with rfl | rfl | rfl
    · exact .head _
    · exact .tail _ (.head _)
    · exact .tail _ (.tail _ (.head _))
  · intro p hp
    have a1 : st < l' := hlt0 _ hst
    simp only [List.mem_cons, List.not_mem_nil, or_false] at hp
    rcases hp with rfl | rfl | rfl
    · exact ⟨Nat.ne_of_gt (Nat.lt_trans a1 (Nat.lt_trans hlt hl2)), fun q hq => Nat.ne_of_lt (Nat.lt_trans (hlt0 q (hrest q hq)) (Nat.lt_trans hlt hl2))⟩
    · exact ⟨Nat.ne_of_gt (Nat.lt_trans a1 hlt), fun q hq => Nat.ne_of_lt (Nat.lt_trans (hlt0 q (hrest q hq)) hlt)⟩
    · exact ⟨Nat.ne_of_gt a1, fun q hq => Nat.ne_of_lt (hlt0 q (hrest q hq))⟩
theorem TreeP.call {P : Params} {st x' d' pl tg : Addr} {R len n np ng : Nat} {rest nx tl : List (Addr × Obj)} {ts : List Tree} {ps gs : List Value} {t1 t2 t3 t4 t5 t6 : Tok} {vs : List Value} {l : List Int} (hlt : ∀ p ∈ nx, p.1 < d') (hl2 : d' < x') (hst : (st, listOf (List.toArray vs) n) ∈ nx) (hrest : ∀ p ∈ rest, p ∈ nx)
    (hi : IntsAre vs l) (hlen : vs.length ≤ len) (hp : (pl, listOf (List.toArray ps) np) ∈ nx) (hg : (tg, listOf (List.toArray gs) ng) ∈ nx) (hT : TreesIn P tl ts ps) (hts : ts.length ≤ 3) (hok : ∀ t ∈ ts, Ok 3 R t ∧ Menu t) (hgl : gs.length = ts.length) (hgt : ∀ v ∈ gs, TagV v) (htl : ∀ p ∈ tl, p ∈ nx)
    (hfr : ∀ p ∈ tl, p.1 ≠ st ∧ ∀ q ∈ rest, q.1 ≠ p.1) (h1 : pl ≠ st) (h2 : tg ≠ st) (h3 : ∀ q ∈ rest, q.1 ≠ pl) (h4 : ∀ q ∈ rest, q.1 ≠ tg) :
    TreeP P st (R + 1) len rest ((x', instObj 89 d') :: (d', callD P pl tg t1 t2 t3 t4 t5 t6) :: nx) (.ref x') := by
  refine ⟨.call ts, (x', instObj 89 d') :: (d', callD P pl tg t1 t2 t3 t4 t5 t6) :: (pl, listOf (List.toArray ps) np) :: (tg, listOf (List.toArray gs) ng) :: tl, vs, l, n, ?_, ?_, ?_, hi, hlen, .tail _ (.tail _ hst), fun p hp => .tail _ (.tail _ (hrest p hp)), ?_, ?_⟩
  · simp only [TreeIn]
    exact ⟨x', d', pl, tg, ps, gs, np, ng, t1, t2, t3, t4, t5, t6, rfl, .head _, .tail _ (.head _), .tail _ (.tail _ (.head _)), .tail _ (.tail _ (.tail _ (.head _))), by rw [hgl, hT.length], hgt, hT.mono fun p hp => .tail _ (.tail _ (.tail _ (.tail _ hp)))⟩
  · exact ⟨hts, fun t ht => (hok t ht).1⟩
  · intro y hy
    simp only [Tree.leaves] at hy
    obtain ⟨t, ht, hy⟩ := of_mem_leavesL hy
    exact (hok t ht).2 y hy
  · intro p hp'
    simp only [List.mem_cons] at hp'
    rcases hp' with rfl | rfl | rfl | rfl | hp'
    · exact .head _
    · exact .tail _ (.head _)
    · exact .tail _ (.tail _ hp)
    · exact .tail _ (.tail _ hg)
    · exact .tail _ (.tail _ (htl p hp'))
  · intro p hp'
    have a1 : st < d' := hlt _ hst
    simp only [List.mem_cons] at hp'
    rcases hp' with rfl | rfl | rfl | rfl | hp'
    · exact ⟨Nat.ne_of_gt (Nat.lt_trans a1 hl2), fun q hq => Nat.ne_of_lt (Nat.lt_trans (hlt q (hrest q hq)) hl2)⟩
    · exact ⟨Nat.ne_of_gt a1, fun q hq => Nat.ne_of_lt (hlt q (hrest q hq))⟩
    · exact ⟨h1, h3⟩
    · exact ⟨h2, h4⟩
    · exact hfr p hp'
theorem tagMenu {k' : Int} {y : Str} {a1 : Tok} {lm : Addr} {all : List (Addr × Obj)} (_ : (lm, listOf #[Value.none, Value.str y a1] 0) ∈ all) (h0 : 0 ≤ k') (h2 : k' < 2) : ∃ v, (#[Value.none, Value.str y a1])[k'.toNat]? = some v ∧ TagV v := by
  rcases (by omega : k' = 0 ∨ k' = 1) with rfl | rfl
  · exact ⟨_, rfl, .inl rfl⟩
  · exact ⟨_, rfl, .inr ⟨_, _, rfl⟩⟩
theorem allLt_ex {d : Addr} : ∀ {l : List (Addr × Obj)}, AllLt d l → ∀ p ∈ l, p.1 < d := fun h => tb_ltOf h
theorem tel_tree {w : World} {mean : ExcName → Option Value} {mg mb : Str → Option Value} : ∀ (R : Nat) (st : Addr) (vs : List Value) (l : List Int) (n : Nat) (deep : Int) (tkd : Tok) (rest : List (Addr × Obj)), IntsAre vs l → vs.length ≤ 1000 → deep + R = 3 → (∀ p ∈ rest, p.1 ≠ st) →
    Tel w mean mg mb 149 (R + 6) [.ref st, .int deep tkd] ((st, listOf (List.toArray vs) n) :: rest) (TreeP w.params st R vs.length rest) := by
  have menu : ∀ {k' : Int} {a0 a1 a2 a3 : Tok} {lm : Addr} {all : List (Addr × Obj)} (_ : (lm, listOf #[Value.str (Str.ofString "f") a0, Value.str (Str.ofString "x") a1, Value.str (Str.ofString "y") a2, Value.str (Str.ofString "...") a3] 0) ∈ all), 0 ≤ k' → k' < 4 → ∃ x t, (#[Value.str (Str.ofString "f") a0, Value.str (Str.ofString "x") a1, Value.str (Str.ofString "y") a2, Value.str (Str.ofString "...") a3])[k'.toNat]? = some (.str x t) ∧
      (x = Str.ofString "f" ∨ x = Str.ofString "x" ∨ x = Str.ofString "y" ∨ x = Str.ofString "...") := by
    intro k' a0 a1 a2 a3 lm all _ h0 h4
    rcases (by omega : k' = 0 ∨ k' = 1 ∨ k' = 2 ∨ k' = 3) with rfl | rfl | rfl | rfl
    · exact ⟨_, _, rfl, .inl rfl⟩
    · exact ⟨_, _, rfl, .inr (.inl rfl)⟩
    · exact ⟨_, _, rfl, .inr (.inr (.inl rfl))⟩
    · exact ⟨_, _, rfl, .inr (.inr (.inr rfl))⟩
  intro R
  induction R with
  | zero =>
    intro st vs l n deep tkd rest hi hz hdeep hne
    intro dp un gd cn cs a ccd cl outer A₀ base h₀ L m s Q E B F X N T hk hd hu ret
    revert X; k_fill; intro X
    refine wpAny_call ?_
    have hrl : dp < recursionLimit := by unfold recursionLimit; omega
    have hrl2 : dp + 3 < recursionLimit := by unfold recursionLimit; omega
    have hd3 : ¬ deep < 3 := by omega
    walk_at "enter 39"
    k_steps
    refine Hold.mk ?_
    k_dflt (refine' tel_use (tel_pull st vs l n 4 _ rest hi hz (by decide) hne) ?h1_1 ?h1_2 ?h1_3 ?h1_4 ?h1_5 ?h1_6 ?h1_7 ?h1_8 ?h1_9 ?_)
    case h1_1 => k_asm
    case h1_2 => k_asm
    case h1_3 => k_asm
    case h1_4 => k_asm
    case h1_5 => k_asm
    case h1_6 => rfl
    case h1_7 => show dp + 1 + _ < _; omega
    case h1_8 => show un + 3 + _ < _; omega
    case h1_9 => exact fun p hp => hp
    rintro r news' h' tk' F4 N4 ⟨k, tk2, vs2, l2, n2, rfl, hk0, hk4, hi2, hz2, hst2, hsub2⟩
    k_steps
    · exact absurd (by assumption : k = 3) (by omega)
    · refine Hold.mk ?_
      rename News _ _ _ _ => N5
      rename (∀ p ∈ news', _ < _) => hlt5
      k_dflt (refine' tel_use (tel_pull st vs2 l2 n2 4 _ (offI st (_ :: news')) hi2 (by omega) (by decide) (fun p hp => (mem_offI.mp hp).2)) ?h6_1 ?h6_2 ?h6_3 ?h6_4 ?h6_5 ?h6_6 ?h6_7 ?h6_8 ?h6_9 ?_)
      case h6_1 => k_asm
      case h6_2 => k_asm
      case h6_3 => k_asm
      case h6_4 => exact N5
      case h6_5 => k_asm
      case h6_6 => rfl
      case h6_7 => show dp + 1 + _ < _; omega
      case h6_8 => show un + 3 + _ < _; omega
      case h6_9 => intro p hp; rcases List.mem_cons.mp hp with rfl | hp; exact .tail _ hst2; exact (mem_offI.mp hp).1
      rintro r news3 h3' tk3' F6 N6 ⟨k3, tk3, vs3, l3, n3, rfl, hk30, hk34, hi3, hz3, hst3, hsub3⟩
      have hmenu := hsub3 _ (mem_offI.mpr ⟨.head _, Nat.ne_of_gt (hlt5 _ hst2)⟩)
      obtain ⟨x, tx, hx, hxm⟩ := menu hmenu hk30 hk34
      k_dflt (refine' my_item N6 hmenu hk30 (by omega) hx ?_ (by with_unfolding_all rfl))
      k_steps
      rename (∀ p ∈ news3, _ < _) => hlt6
      exact ret _ _ _ _ (by assumption) (by assumption) (TreeP.sym hlt6 (by assumption) hst3 (fun p hp => hsub3 p (mem_offI.mpr ⟨.tail _ (hsub2 p hp), hne p hp⟩)) hi3 (by omega) hxm)
    · refine Hold.mk ?_
      rename News _ _ _ _ => N5
      k_dflt (refine' tel_use (tel_pull st vs2 l2 n2 9 _ (offI st news') hi2 (by omega) (by decide) (fun p hp => (mem_offI.mp hp).2)) ?h7_1 ?h7_2 ?h7_3 ?h7_4 ?h7_5 ?h7_6 ?h7_7 ?h7_8 ?h7_9 ?_)
      case h7_1 => k_asm
      case h7_2 => k_asm
      case h7_3 => k_asm
      case h7_4 => exact N5
      case h7_5 => k_asm
      case h7_6 => rfl
      case h7_7 => show dp + 1 + _ < _; omega
      case h7_8 => show un + 3 + _ < _; omega
      case h7_9 => intro p hp; rcases List.mem_cons.mp hp with rfl | hp; exact hst2; exact (mem_offI.mp hp).1
      rintro r news3 h3' tk3' F6 N6 ⟨k3, tk3, vs3, l3, n3, rfl, hk30, hk34, hi3, hz3, hst3, hsub3⟩
      k_steps
      rename (∀ p ∈ news3, _ < _) => hlt6
      rename (_ ∧ AllLt _ news3) => hlt7
      exact ret _ _ _ _ (by assumption) (by assumption) (TreeP.vec hlt6 hlt7.1 (by assumption) hst3 (fun p hp => hsub3 p (mem_offI.mpr ⟨hsub2 p hp, hne p hp⟩)) hi3 (by omega))
    · refine Hold.mk ?_
      rename News _ _ _ _ => N5
      rename (∀ p ∈ news', _ < _) => hlt5
      k_dflt (refine' tel_use (tel_pull st vs2 l2 n2 4 _ (offI st (_ :: news')) hi2 (by omega) (by decide) (fun p hp => (mem_offI.mp hp).2)) ?h8_1 ?h8_2 ?h8_3 ?h8_4 ?h8_5 ?h8_6 ?h8_7 ?h8_8 ?h8_9 ?_)
      case h8_1 => k_asm
      case h8_2 => k_asm
      case h8_3 => k_asm
      case h8_4 => exact N5
      case h8_5 => k_asm
      case h8_6 => rfl
      case h8_7 => show dp + 1 + _ < _; omega
      case h8_8 => show un + 3 + _ < _; omega
      case h8_9 => intro p hp; rcases List.mem_cons.mp hp with rfl | hp; exact .tail _ hst2; exact (mem_offI.mp hp).1
      rintro r news3 h3' tk3' F6 N6 ⟨k3, tk3, vs3, l3, n3, rfl, hk30, hk34, hi3, hz3, hst3, hsub3⟩
      have hmenu := hsub3 _ (mem_offI.mpr ⟨.head _, Nat.ne_of_gt (hlt5 _ hst2)⟩)
      obtain ⟨x, tx, hx, hxm⟩ := menu hmenu hk30 hk34
      k_dflt (refine' my_item N6 hmenu hk30 (by omega) hx ?_ (by with_unfolding_all rfl))
      k_steps
      rename (∀ p ∈ news3, _ < _) => hlt6
      exact ret _ _ _ _ (by assumption) (by assumption) (TreeP.sym hlt6 (by assumption) hst3 (fun p hp => hsub3 p (mem_offI.mpr ⟨.tail _ (hsub2 p hp), hne p hp⟩)) hi3 (by omega) hxm)
  | succ R ih =>
    intro st vs l n deep tkd rest hi hz hdeep hne
    intro dp un gd cn cs a ccd cl outer A₀ base h₀ L m s Q E B F X N T hk hd hu ret
    revert X; k_fill; intro X
    refine wpAny_call ?_
    have hrl : dp < recursionLimit := by unfold recursionLimit; omega
    have hrl2 : dp + 3 < recursionLimit := by unfold recursionLimit; omega
    have hd3 : deep < 3 := by omega
    walk_at "enter 39"
    k_steps
    refine Hold.mk ?_
    k_dflt (refine' tel_use (tel_pull st vs l n 4 _ rest hi hz (by decide) hne) ?h1_1 ?h1_2 ?h1_3 ?h1_4 ?h1_5 ?h1_6 ?h1_7 ?h1_8 ?h1_9 ?_)
    case h1_1 => k_asm
    case h1_2 => k_asm
    case h1_3 => k_asm
    case h1_4 => k_asm
    case h1_5 => k_asm
    case h1_6 => rfl
    case h1_7 => show dp + 1 + _ < _; omega
    case h1_8 => show un + 3 + _ < _; omega
    case h1_9 => exact fun p hp => hp
    rintro r news' h' tk' F4 N4 ⟨k, tk2, vs2, l2, n2, rfl, hk0, hk4, hi2, hz2, hst2, hsub2⟩
    k_steps
    · refine Hold.mk ?_
      k_dflt (refine' tel_use (ih st vs2 l2 n2 (deep + 1) _ (offI st news') hi2 (by omega) (by omega) (fun p hp => (mem_offI.mp hp).2)) ?h2_1 ?h2_2 ?h2_3 ?h2_4 ?h2_5 ?h2_6 ?h2_7 ?h2_8 ?h2_9 ?_)
      case h2_1 => k_asm
      case h2_2 => k_asm
      case h2_3 => k_asm
      case h2_4 => k_asm
      case h2_5 => k_asm
      case h2_6 => rfl
      case h2_7 => show dp + 1 + _ < _; omega
      case h2_8 => show un + 3 + _ < _; omega
      case h2_9 => intro p hp; rcases List.mem_cons.mp hp with rfl | hp; exact hst2; exact (mem_offI.mp hp).1
      rintro r news3 h3' tk3' F6 N6 ⟨t1, tl1, vs3, l3, n3, hT1, hok1, hmn1, hi3, hz3, hst3, hsub3, htl1, hfr1⟩
      k_steps
      rename News _ _ _ _ => N7
      rename (∀ p ∈ news3, _ < _) => hltp
      rename (_ ∧ AllLt _ news3) => hltt
      refine Hold.mk ?_
      k_dflt (refine' tel_use (tel_pull st vs3 l3 n3 3 _ (offI st (_ :: _ :: news3)) hi3 (by omega) (by decide) (fun p hp => (mem_offI.mp hp).2)) ?h3_1 ?h3_2 ?h3_3 ?h3_4 ?h3_5 ?h3_6 ?h3_7 ?h3_8 ?h3_9 ?_)
      case h3_1 => k_asm
      case h3_2 => k_asm
      case h3_3 => k_asm
      case h3_4 => exact N7
      case h3_5 => k_asm
      case h3_6 => rfl
      case h3_7 => show dp + 1 + _ < _; omega
      case h3_8 => show un + 3 + _ < _; omega
      case h3_9 => intro p hp; rcases List.mem_cons.mp hp with rfl | hp; exact .tail _ (.tail _ hst3); exact (mem_offI.mp hp).1
      rintro r4 news4 h4' tk4' F8 N8 ⟨k4, tk4, vs4, l4, n4, rfl, hk40, hk43, hi4, hz4, hst4, hsub4⟩
      have hplst := Nat.ne_of_gt (hltp _ hst3)
      have htgst := Nat.ne_of_gt (allLt_ex hltt.2 _ hst3)
      have hpltg := Nat.ne_of_lt hltt.1
      have hpm := hsub4 _ (mem_offI.mpr ⟨.tail _ (.head _), hplst⟩)
      have htm := hsub4 _ (mem_offI.mpr ⟨.head _, htgst⟩)
      have hr3 : ∀ p ∈ rest, p ∈ news3 := fun p hp => hsub3 p (mem_offI.mpr ⟨hsub2 p hp, hne p hp⟩)
      have hr4 : ∀ p ∈ rest, p ∈ news4 := fun p hp => hsub4 p (mem_offI.mpr ⟨.tail _ (.tail _ (hr3 p hp)), hne p hp⟩)
      have hrp : ∀ p ∈ rest, _ := fun p hp => Nat.ne_of_lt (hltp p (hr3 p hp))
      have hrt : ∀ p ∈ rest, _ := fun p hp => Nat.ne_of_lt (allLt_ex hltt.2 p (hr3 p hp))
      have ht4 : ∀ p ∈ tl1, p ∈ news4 := fun p hp => hsub4 p (mem_offI.mpr ⟨.tail _ (.tail _ (htl1 p hp)), (hfr1 p hp).1⟩)
      have ht5 : ∀ p ∈ tl1, p.1 ≠ st ∧ _ ∧ _ ∧ ∀ q ∈ rest, q.1 ≠ p.1 := fun p hp => ⟨(hfr1 p hp).1, Nat.ne_of_lt (hltp p (htl1 p hp)), Nat.ne_of_lt (allLt_ex hltt.2 p (htl1 p hp)), fun q hq => (hfr1 p hp).2 q (mem_offI.mpr ⟨hsub2 q hq, hne q hq⟩)⟩
      k_steps
      refine Hold.mk ?_
      rename Fr _ _ _ _ => F9
      rename News _ _ _ _ => N9
      refine range1_rows F9 N9 ?_
      intro h9 tk9 u1 u2 u3 hR F10 N10 _
      k_steps
      refine Hold.mk ?_
      k_dflt (refine' for_range (fun i m nx => m (Str.ofString "stack") = some (.ref st) ∧ m (Str.ofString "deep") = some (.int deep tkd) ∧ m (Str.ofString "parts_of") = some (.ref _) ∧ m (Str.ofString "tags") = some (.ref _) ∧ ∃ ts tl ps gs vs l n np ng, (_, listOf (List.toArray ps) np) ∈ nx ∧ (_, listOf (List.toArray gs) ng) ∈ nx ∧ (st, listOf (List.toArray vs) n) ∈ nx ∧ TreesIn w.params tl ts ps ∧ ts.length = i + 1 ∧ (∀ t ∈ ts, Ok 3 R t ∧ Menu t) ∧ gs.length = i + 1 ∧ (∀ v ∈ gs, TagV v) ∧ IntsAre vs l ∧ vs.length ≤ vs4.length ∧ (∀ p ∈ tl, p ∈ nx) ∧ (∀ p ∈ rest, p ∈ nx) ∧ (∀ p ∈ tl, p.1 ≠ st ∧ p.1 ≠ _ ∧ p.1 ≠ _ ∧ ∀ q ∈ rest, q.1 ≠ p.1)) rfl hR (small_one (by decide) (by decide) (by omega) (by omega)) (rangeSize_nat _ _) F10 N10 ⟨rfl, rfl, rfl, rfl, [t1], tl1, [r], [.none], vs4, l4, n4, 0, 0, hpm, htm, hst4, .one hT1, rfl, by simpa using ⟨hok1, hmn1⟩, rfl, by simp [TagV], hi4, Nat.le_refl _, ht4, hr4, ht5⟩ ?turn ?done)
      case turn =>
        rintro i m1 nx h tk I it tlap hik ⟨hm1, hm2, hm3, hm4, ts, tl, ps, gs, vs5, l5, n5, np, ng, hpx, hgx, hsx, hTs, htsl, hoks, hgl, hgt, hi5, hz5, htlx, hrx, hfrx⟩ hI1 hI2 F11 N11
        have F12 := frLoop F11 [(Str.ofString "stack", _), (Str.ofString "deep", _), (Str.ofString "parts_of", _), (Str.ofString "tags", _)] rfl (fa4 hm1 hm2 hm3 hm4)
        clear F11 F9 F10 N9 N7
        show wpAny _ _ _ _ _ _
        try k_fold
        k_steps
        refine Hold.mk ?_
        k_dflt (refine' tel_use (ih st vs5 l5 n5 (deep + 1) _ (offI st ((I, it) :: nx)) hi5 (by omega) (by omega) (fun p hp => (mem_offI.mp hp).2)) ?h4_1 ?h4_2 ?h4_3 ?h4_4 ?h4_5 ?h4_6 ?h4_7 ?h4_8 ?h4_9 ?_)
        case h4_1 => k_asm
        case h4_2 => k_asm
        case h4_3 => k_asm
        case h4_4 => exact N11
        case h4_5 => k_asm
        case h4_6 => rfl
        case h4_7 => show dp + 1 + _ < _; omega
        case h4_8 => show un + 3 + _ < _; omega
        case h4_9 => intro p hp; rcases List.mem_cons.mp hp with rfl | hp; exact .tail _ hsx; exact (mem_offI.mp hp).1
        rintro r5 news5 h5' tk5' F13 N13 ⟨t5, tl5, vs6, l6, n6, hT5, hok5, hmn5, hi6, hz6, hst6, hsub6, htl6, hfr6⟩
        k_steps
        refine Hold.mk ?_
        have hIst : I ≠ st := fun e => hI2 _ hsx e.symm
        have hpx5 := hsub6 _ (mem_offI.mpr ⟨.tail _ hpx, hplst⟩)
        have hgx5 := hsub6 _ (mem_offI.mpr ⟨.tail _ hgx, htgst⟩)
        have hIx5 := hsub6 _ (mem_offI.mpr ⟨.head _, hIst⟩)
        have hpsz : ps.length ≤ 3 := by rw [hTs.length]; omega
        rename Fr _ _ _ _ => F14
        rename News _ _ _ _ => N14
        refine my_append F14 N14 hpx5 (by omega) ?_
        intro h15 F15 N15
        have hgx15 := mem_offI.mpr (And.intro hgx5 hpltg.symm)
        k_steps
        refine Hold.mk ?_
        rename News _ _ _ _ => N16
        rename (_ ∧ AllLt _ _) => hlt16
        k_dflt (refine' tel_use (tel_pull st vs6 l6 n6 2 _ (offI st (_ :: _ :: offI _ news5)) hi6 (by omega) (by decide) (fun p hp => (mem_offI.mp hp).2)) ?h5_1 ?h5_2 ?h5_3 ?h5_4 ?h5_5 ?h5_6 ?h5_7 ?h5_8 ?h5_9 ?_)
        case h5_1 => k_asm
        case h5_2 => k_asm
        case h5_3 => k_asm
        case h5_4 => exact N16
        case h5_5 => k_asm
        case h5_6 => rfl
        case h5_7 => show dp + 1 + _ < _; omega
        case h5_8 => show un + 3 + _ < _; omega
        case h5_9 => intro p hp; rcases List.mem_cons.mp hp with rfl | hp; exact .tail _ (.tail _ (mem_offI.mpr ⟨hst6, hplst.symm⟩)); exact (mem_offI.mp hp).1
        rintro r7 news7 h7' tk7' F17 N17 ⟨k7, tk7, vs7, l7, n7, rfl, hk70, hk72, hi7, hz7, hst7, hsub7⟩
        have hlm := hsub7 _ (mem_offI.mpr ⟨.head _, Nat.ne_of_gt (allLt_ex hlt16.2 _ (mem_offI.mpr ⟨hst6, hplst.symm⟩))⟩)
        obtain ⟨vt, hvt, htv⟩ := tagMenu hlm hk70 hk72
        k_dflt (refine' my_item N17 hlm hk70 (by omega) hvt ?_ (by with_unfolding_all rfl))
        k_steps
        refine Hold.mk ?_
        rename Fr _ _ _ _ => F18
        rename News _ _ _ _ => N18
        have hgx7 := hsub7 _ (mem_offI.mpr ⟨.tail _ (.tail _ hgx15), htgst⟩)
        refine my_append F18 N18 hgx7 (by omega) ?_
        intro h19 F19 N19
        k_steps
        have carry : ∀ p ∈ news5, p.1 ≠ st → p.1 ≠ _ → p ∈ news7 := fun p hp h1 h2 => hsub7 p (mem_offI.mpr ⟨.tail _ (.tail _ (mem_offI.mpr ⟨hp, h2⟩)), h1⟩)
        have hIpl := hI2 _ hpx
        have hItg := hI2 _ hgx
        have hIx7 := hsub7 _ (mem_offI.mpr ⟨.tail _ (.tail _ (mem_offI.mpr ⟨hIx5, hIpl.symm⟩)), hIst⟩)
        have hpx7 := hsub7 _ (mem_offI.mpr ⟨.tail _ (.head _), hplst⟩)
        refine LStep.next (by assumption) (by assumption) (.tail _ (mem_offI.mpr ⟨hIx7, hItg.symm⟩)) ⟨rfl, rfl, rfl, rfl, ts ++ [t5], tl ++ tl5, ps ++ [r5], gs ++ [vt], vs7, l7, n7, _, _, mem_offI.mpr ⟨.tail _ (mem_offI.mpr ⟨hpx7, hpltg⟩), hIpl⟩, mem_offI.mpr ⟨.head _, hItg⟩, mem_offI.mpr ⟨.tail _ (mem_offI.mpr ⟨hst7, htgst.symm⟩), hIst.symm⟩, ?_, ?_, ?_, ?_, ?_, hi7, by omega, ?_, ?_, ?_⟩
        · exact (hTs.mono fun p hp => List.mem_append_left _ hp).snoc (hT5.mono fun p hp => List.mem_append_right _ hp)
        · rw [List.length_append, htsl]; rfl
        · intro t ht
          rcases List.mem_append.mp ht with ht | ht
          · exact hoks t ht
          · rw [List.mem_singleton.mp ht]; exact ⟨hok5, hmn5⟩
        · rw [List.length_append, hgl]; rfl
        · intro v hv
          rcases List.mem_append.mp hv with hv | hv
          · exact hgt v hv
          · rw [List.mem_singleton.mp hv]; exact htv
        · intro p hp
          rcases List.mem_append.mp hp with hp | hp
          · exact mem_offI.mpr ⟨.tail _ (mem_offI.mpr ⟨carry p (hsub6 p (mem_offI.mpr ⟨.tail _ (htlx p hp), (hfrx p hp).1⟩)) (hfrx p hp).1 (hfrx p hp).2.1, (hfrx p hp).2.2.1⟩), hI2 p (htlx p hp)⟩
          · exact mem_offI.mpr ⟨.tail _ (mem_offI.mpr ⟨carry p (htl6 p hp) (hfr6 p hp).1 ((hfr6 p hp).2 _ (mem_offI.mpr ⟨.tail _ hpx, hplst⟩)).symm, ((hfr6 p hp).2 _ (mem_offI.mpr ⟨.tail _ hgx, htgst⟩)).symm⟩), ((hfr6 p hp).2 _ (mem_offI.mpr ⟨.head _, hIst⟩)).symm⟩
        · exact fun p hp => mem_offI.mpr ⟨.tail _ (mem_offI.mpr ⟨carry p (hsub6 p (mem_offI.mpr ⟨.tail _ (hrx p hp), hne p hp⟩)) (hne p hp) (hrp p hp), hrt p hp⟩), hI2 p (hrx p hp)⟩
        · intro p hp
          rcases List.mem_append.mp hp with hp | hp
          · exact hfrx p hp
          · exact ⟨(hfr6 p hp).1, ((hfr6 p hp).2 _ (mem_offI.mpr ⟨.tail _ hpx, hplst⟩)).symm, ((hfr6 p hp).2 _ (mem_offI.mpr ⟨.tail _ hgx, htgst⟩)).symm, fun q hq => (hfr6 p hp).2 q (mem_offI.mpr ⟨.tail _ (hrx q hq), hne q hq⟩)⟩
      case done =>
        rintro m1 nx h tk ⟨hm1, hm2, hm3, hm4, ts, tl, ps, gs, vs5, l5, n5, np, ng, hpx, hgx, hsx, hTs, htsl, hoks, hgl, hgt, hi5, hz5, htlx, hrx, hfrx⟩ F11 N11
        have F12 := frSet F11 [(Str.ofString "parts_of", _), (Str.ofString "tags", _)] (fa2 hm3 hm4)
        clear F11 F9 F10 N9 N7
        show wpAny _ _ _ _ _ _
        try k_fold
        k_steps
        rename (∀ p ∈ nx, _ < _) => hlt20
        exact ret _ _ _ _ (by assumption) (by assumption) (TreeP.call hlt20 (by assumption) hsx hrx hi5 (by omega) hpx hgx hTs (by omega) hoks (by omega) hgt htlx (fun p hp => ⟨(hfrx p hp).1, (hfrx p hp).2.2.2⟩) hplst htgst hrp hrt)
    · refine Hold.mk ?_
      rename News _ _ _ _ => N5
      k_dflt (refine' tel_use (tel_pull st vs2 l2 n2 9 _ (offI st news') hi2 (by omega) (by decide) (fun p hp => (mem_offI.mp hp).2)) ?h9_1 ?h9_2 ?h9_3 ?h9_4 ?h9_5 ?h9_6 ?h9_7 ?h9_8 ?h9_9 ?_)
      case h9_1 => k_asm
      case h9_2 => k_asm
      case h9_3 => k_asm
      case h9_4 => exact N5
      case h9_5 => k_asm
      case h9_6 => rfl
      case h9_7 => show dp + 1 + _ < _; omega
      case h9_8 => show un + 3 + _ < _; omega
      case h9_9 => intro p hp; rcases List.mem_cons.mp hp with rfl | hp; exact hst2; exact (mem_offI.mp hp).1
      rintro r news3 h3' tk3' F6 N6 ⟨k3, tk3, vs3, l3, n3, rfl, hk30, hk34, hi3, hz3, hst3, hsub3⟩
      k_steps
      rename (∀ p ∈ news3, _ < _) => hlt6
      rename (_ ∧ AllLt _ news3) => hlt7
      exact ret _ _ _ _ (by assumption) (by assumption) (TreeP.vec hlt6 hlt7.1 (by assumption) hst3 (fun p hp => hsub3 p (mem_offI.mpr ⟨hsub2 p hp, hne p hp⟩)) hi3 (by omega))
    · refine Hold.mk ?_
      rename News _ _ _ _ => N5
      rename (∀ p ∈ news', _ < _) => hlt5
      k_dflt (refine' tel_use (tel_pull st vs2 l2 n2 4 _ (offI st (_ :: news')) hi2 (by omega) (by decide) (fun p hp => (mem_offI.mp hp).2)) ?h10_1 ?h10_2 ?h10_3 ?h10_4 ?h10_5 ?h10_6 ?h10_7 ?h10_8 ?h10_9 ?_)
      case h10_1 => k_asm
      case h10_2 => k_asm
      case h10_3 => k_asm
      case h10_4 => exact N5
      case h10_5 => k_asm
      case h10_6 => rfl
      case h10_7 => show dp + 1 + _ < _; omega
      case h10_8 => show un + 3 + _ < _; omega
      case h10_9 => intro p hp; rcases List.mem_cons.mp hp with rfl | hp; exact .tail _ hst2; exact (mem_offI.mp hp).1
      rintro r news3 h3' tk3' F6 N6 ⟨k3, tk3, vs3, l3, n3, rfl, hk30, hk34, hi3, hz3, hst3, hsub3⟩
      have hmenu := hsub3 _ (mem_offI.mpr ⟨.head _, Nat.ne_of_gt (hlt5 _ hst2)⟩)
      obtain ⟨x, tx, hx, hxm⟩ := menu hmenu hk30 hk34
      k_dflt (refine' my_item N6 hmenu hk30 (by omega) hx ?_ (by with_unfolding_all rfl))
      k_steps
      rename (∀ p ∈ news3, _ < _) => hlt6
      exact ret _ _ _ _ (by assumption) (by assumption) (TreeP.sym hlt6 (by assumption) hst3 (fun p hp => hsub3 p (mem_offI.mpr ⟨.tail _ (hsub2 p hp), hne p hp⟩)) hi3 (by omega) hxm)

theorem allLt_exS {d : Addr} : ∀ {l : List (Addr × Obj)}, AllLt d l → ∀ p ∈ l, p.1 < d := fun h => tb_ltOf h
theorem ints_mem {vs : List Value} {l : List Int} (h : IntsAre vs l) {v : Value} (hv : v ∈ vs) : ∃ c t, v = .int c t := by
  induction h with
  | nil => cases hv
  | cons k t _ ih =>
    rcases List.mem_cons.mp hv with rfl | hv
    · exact ⟨k, t, rfl⟩
    · exact ih hv
theorem ints_snoc {vs : List Value} {l : List Int} {k : Int} {t : Tok} (h : IntsAre vs l) : IntsAre (vs ++ [.int k t]) (l ++ [k]) := by
  induction h with
  | nil => exact .cons _ _ .nil
  | cons k t _ ih => exact .cons _ _ ih
theorem ints_append {vs ws : List Value} {l k : List Int} (h : IntsAre vs l) (h2 : IntsAre ws k) : IntsAre (vs ++ ws) (l ++ k) := by
  induction h with
  | nil => exact h2
  | cons k t _ ih => exact .cons _ _ ih
theorem ints_reverse {vs : List Value} {l : List Int} (h : IntsAre vs l) : IntsAre vs.reverse l.reverse := by
  induction h with
  | nil => exact .nil
  | cons k t _ ih => rw [List.reverse_cons, List.reverse_cons]; exact ints_snoc ih
/-! _law_stack -/
theorem tel_stack {w : World} {mean : ExcName → Option Value} {mg mb : Str → Option Value}
    {dp un : Nat} {gd : Option (List Code)} {cn : Str} {cs : Scope} {a : Addr} {ccd : Value} {cl : List (Str × Addr)} {outer : List Env} {A₀ : Around} {base h₀ : Heap} {L : Addr} {m : Str → Option Value} {s : Shared}
    {Q E : Value → Shared → Prop} {news : List (Addr × Obj)} {ls : Addr} {vs : List Value} {l : List Int}
    (B : Below A₀ base outer h₀) (F : Fr h₀ L s.heap m) (X : (Mine0.hd.heap_39 w.params).In h₀) (N : News h₀ L s.heap news) (T : Top Mine0.hd.view_39 (looseW Mine0.hd.view_39 []) mean mg mb h₀) (hk : cs.kind = .function)
    (hd : dp + 2 < 900) (hu : un + 3 * 2 < 9000) (hL : h₀.IsList ls vs.toArray) (hi : IntsAre vs l) (hz : vs.length ≤ 100)
    (ret : ∀ r news' h' tk' st us k n, Fr h₀ L h' m → News h₀ L h' news' → r = .ref st → (st, listOf (List.toArray us) n) ∈ news' → IntsAre us k → us.length ≤ 1000 → (∀ p ∈ news, p ∈ news') → (∀ p ∈ news, p.1 < st) → Q r { s with heap := h', toks := tk' }) :
    wpAny (model PySem.Challenge.rw_ov0039_01.row.prog w) (ktrTop dp un gd cn cs L a ccd cl outer) (call (.ref 135) [.ref ls]) Q E s := by
  revert X; k_fill; intro X
  refine wpAny_call ?_
  have hrl : dp < recursionLimit := by unfold recursionLimit; omega
  have hrl2 : dp + 3 < recursionLimit := by unfold recursionLimit; omega
  walk_at "enter 39"
  rename Fr h₀ L _ m => FG
  have hLg := stays_list FG.keep hL
  k_steps
  refine Hold.mk ?_
  rename (∀ p ∈ news, _ < _) => hst0
  rename IntsAre _ (List.take 28 l) => hiw
  rename Fr _ _ _ _ => F1
  rename News _ _ _ _ => N1
  rename (_ ∧ _ ∧ _ ∧ AllLt _ news) => hlI
  have hwl : (List.take 28 l).length ≤ 28 := List.length_take_le _ _
  have hwl2 := hiw.length
  rename (_ ∧ _ ∧ AllLt _ news) => hlax
  have haxst := Nat.ne_of_gt hlax.2.1
  k_dflt (refine' for_rev (fun i m nx => m (Str.ofString "stack") = some (.ref _) ∧ ∃ us k n, (_, listOf (List.toArray us) n) ∈ nx ∧ IntsAre us k ∧ us.length ≤ 9 * i ∧ (∀ p ∈ news, p ∈ nx) ∧ (_, _) ∈ nx) rfl F1 N1 (allLt_exS (l := _ :: _ :: _ :: news) hlI) (.head _) ⟨rfl, [], [], 0, .tail _ (.tail _ (.head _)), .nil, Nat.zero_le _, fun p hp => .tail _ (.tail _ (.tail _ hp)), .head _⟩ (fun i m nx hj => by obtain ⟨_, _, _, _, _, _, _, _, q⟩ := hj; exact q) ?turn ?done)
  case turn =>
    rintro i v m1 nx h tk it hik hv ⟨hm1, us, k, n, hus, hku, hul, hsub, hax⟩ F2 N2
    obtain ⟨c, tc, rfl⟩ : ∃ c t, v = .int c t := ints_mem hiw hv
    have F3 := frLoop F2 [(Str.ofString "stack", _)] rfl (fa1 hm1)
    clear F2 F1 N1
    show wpAny _ _ _ _ _ _
    try k_fold
    k_steps
    all_goals
      refine Hold.mk ?_
      rename Fr _ _ _ _ => F4
      rename News _ _ _ _ => N4
      rename (_ ∧ AllLt _ nx) => hlp
      have hpit := Nat.ne_of_lt hlp.1
      have hpn : ∀ p ∈ nx, _ := fun p hp => Nat.ne_of_lt (allLt_exS hlp.2 p hp)
      refine range1_rows F4 N4 ?_
      intro h9 tk9 u1 u2 u3 hR F10 N10 _
      k_steps
      refine Hold.mk ?_
      k_dflt (refine' for_range (fun i m ny => m (Str.ofString "stack") = some (.ref _) ∧ m (Str.ofString "pieces") = some (.ref _) ∧ (∃ f t, m (Str.ofString "figure") = some (.int f t)) ∧ ∃ ps k n, (_, listOf (List.toArray ps) n) ∈ ny ∧ IntsAre ps k ∧ ps.length ≤ i ∧ (0 < i → ps ≠ []) ∧ (_, it) ∈ ny ∧ ∀ p ∈ nx, p ∈ ny) rfl hR (small_one (by decide) (by decide) (by decide) (by decide)) (rangeSize_nat _ _) F10 N10 ⟨rfl, rfl, ⟨_, _, rfl⟩, [], [], 0, .head _, .nil, Nat.zero_le _, (fun h => absurd h (Nat.lt_irrefl _)), .tail _ (.head _), fun p hp => .tail _ (.tail _ hp)⟩ ?_ ?_)
      · rintro j m2 ny h5 tk5 I2 it2 tl hj ⟨g1, g2, ⟨f, tf, g3⟩, ps, kp, np, hps, hkp, hpl, hpne, hity, hny⟩ hI1 hI2 F5 N5
        have F6 := frLoop F5 [(Str.ofString "stack", _), (Str.ofString "pieces", _), (Str.ofString "figure", _)] rfl (fa3 g1 g2 g3)
        clear F5 F4 N4 F10 N10
        show wpAny _ _ _ _ _ _
        try k_fold
        have hIpc := (hI2 _ hps).symm
        k_steps
        · refine Hold.mk ?_
          rename Fr _ _ _ _ => F7
          rename News _ _ _ _ => N7
          refine my_append F7 N7 (.tail _ hps) (by omega) ?_
          intro h8 F8 N8
          k_steps
          refine LStep.next (by assumption) (by assumption) (.tail _ (mem_offI.mpr ⟨.head _, hIpc⟩)) ⟨rfl, rfl, ⟨_, _, rfl⟩, ps ++ [.int _ _], kp ++ [_], np + 1, mem_offI.mpr ⟨.head _, hIpc.symm⟩, ints_snoc hkp, by simp; omega, fun _ => by simp, mem_offI.mpr ⟨.tail _ (mem_offI.mpr ⟨.tail _ hity, hpit⟩), hI2 _ hity⟩, fun p hp => mem_offI.mpr ⟨.tail _ (mem_offI.mpr ⟨.tail _ (hny p hp), hpn p hp⟩), hI2 _ (hny p hp)⟩⟩
        · refine Hold.mk ?_
          rename Fr _ _ _ _ => F7
          rename News _ _ _ _ => N7
          refine my_append F7 N7 (.tail _ hps) (by omega) ?_
          intro h8 F8 N8
          k_steps
          refine LStep.next (by assumption) (by assumption) (.tail _ (mem_offI.mpr ⟨.head _, hIpc⟩)) ⟨rfl, rfl, ⟨_, _, rfl⟩, ps ++ [.int _ _], kp ++ [_], np + 1, mem_offI.mpr ⟨.head _, hIpc.symm⟩, ints_snoc hkp, by simp; omega, fun _ => by simp, mem_offI.mpr ⟨.tail _ (mem_offI.mpr ⟨.tail _ hity, hpit⟩), hI2 _ hity⟩, fun p hp => mem_offI.mpr ⟨.tail _ (mem_offI.mpr ⟨.tail _ (hny p hp), hpn p hp⟩), hI2 _ (hny p hp)⟩⟩
        · refine LStep.next (by assumption) (by assumption) (.head _) ⟨rfl, rfl, ⟨_, _, rfl⟩, ps, kp, np, mem_offI.mpr ⟨.tail _ hps, hIpc.symm⟩, hkp, by omega, fun _ => hpne (by omega), mem_offI.mpr ⟨.tail _ hity, hI2 _ hity⟩, fun p hp => mem_offI.mpr ⟨.tail _ (hny p hp), hI2 _ (hny p hp)⟩⟩
      · rintro m2 ny h5 tk5 ⟨g1, g2, ⟨f, tf, g3⟩, ps, kp, np, hps, hkp, hpl, hpne, hity, hny⟩ F5 N5
        have F6 := frSet F5 [(Str.ofString "stack", _), (Str.ofString "pieces", _)] (fa2 g1 g2)
        clear F5 F4 N4 F10 N10
        show wpAny _ _ _ _ _ _
        try k_fold
        have hus2 := mem_offI.mpr (And.intro (hny _ hus) (hpn _ hus))
        have hax2 := mem_offI.mpr (And.intro (hny _ hax) (hpn _ hax))
        have hit2 := mem_offI.mpr (And.intro hity hpit)
        have hps0 : ps ≠ [] := hpne (by decide)
        k_steps
        refine Hold.mk ?_
        rename Fr _ _ _ _ => F7
        rename News _ _ _ _ => N7
        k_dflt (refine' my_reverse F7 N7 hps (by omega) ?_)
        intro h8 F8 N8
        k_steps
        refine Hold.mk ?_
        rename Fr _ _ _ _ => F9
        rename News _ _ _ _ => N9
        have hstpc := hpn _ hus
        refine my_extend F9 N9 (.tail _ hus2) (.head _) (by simpa using hps0) hstpc.symm (by simp; omega) ?_
        intro h10 F11 N11
        k_steps
        have hIst := Nat.ne_of_gt hlI.2.2.1
        have hIax := Nat.ne_of_gt hlI.1
        refine LStep.next (by assumption) (by assumption) (.tail _ (mem_offI.mpr ⟨.tail _ hit2, hIst⟩)) ⟨rfl, us ++ ps.reverse, k ++ kp.reverse, n + 1, mem_offI.mpr ⟨.head _, hIst.symm⟩, ints_append hku (ints_reverse hkp), by simp; omega, fun p hp => mem_offI.mpr ⟨.tail _ (mem_offI.mpr ⟨.tail _ (mem_offI.mpr ⟨hny _ (hsub p hp), hpn _ (hsub p hp)⟩), Nat.ne_of_lt (hst0 p hp)⟩), Nat.ne_of_lt (allLt_exS hlI.2.2.2 p hp)⟩, mem_offI.mpr ⟨.tail _ (mem_offI.mpr ⟨.tail _ hax2, haxst⟩), hIax.symm⟩⟩
  case done =>
    rintro m1 nx h tk ⟨hm1, us, k, n, hus, hku, hul, hsub, hax⟩ F2 N2
    have F3 := frSet F2 [(Str.ofString "stack", _)] (fa1 hm1)
    clear F2 F1 N1
    show wpAny _ _ _ _ _ _
    try k_fold
    k_steps
    exact ret _ _ _ _ _ us k n (by assumption) (by assumption) rfl hus hku (by omega) hsub hst0

/-! share -/
def ShareP (P : Params) (v : Value) (frm rest : List (Addr × Obj)) (news' : List (Addr × Obj)) (r : Value) : Prop :=
  r = v ∧ (∀ p ∈ frm, p ∈ news') ∧ ∃ rest', (∀ p ∈ rest', p ∈ news') ∧ Sh P rest rest' ∧ ∀ q ∈ rest', ∃ p ∈ rest, p.1 = q.1
theorem tel_share {w : World} {mean : ExcName → Option Value} {mg mb : Str → Option Value} (t : Tree) (v : Value) (frm rest : List (Addr × Obj)) (R : TreeIn w.params rest t v) (hdis : ∀ p ∈ frm, ∀ q ∈ rest, p.1 ≠ q.1) :
    Tel w mean mg mb 100 2 [v] (frm ++ rest) (ShareP w.params v frm rest) := by
  intro dp un gd cn cs a ccd cl outer A₀ base h₀ L m s Q E B F X N T hk hd hu ret
  revert X; k_fill; intro X
  refine wpAny_call ?_
  have hrl : dp < recursionLimit := by unfold recursionLimit; omega
  cases t with
  | sym x =>
    simp only [TreeIn] at R
    obtain ⟨a1, d1, t1, t2, t3, t4, t5, rfl, h1, h2⟩ := R
    replace h1 : (a1, instObj 67 d1) ∈ frm ++ rest := List.mem_append_right _ h1
    replace h2 := List.mem_append_right frm h2
    walk_at "enter 39"
    k_steps
    exact ret _ _ _ _ (by assumption) (by assumption) ⟨rfl, fun p hp => List.mem_append_left _ hp, rest, fun p hp => List.mem_append_right _ hp, .refl, fun q hq => ⟨q, hq, rfl⟩⟩
  | vec k =>
    simp only [TreeIn] at R
    obtain ⟨a1, d1, l1, b, t1, t2, t3, t4, t5, t6, t7, n, rfl, h1, h2, h3⟩ := R
    have hdr := h2
    replace h1 : (a1, instObj 46 d1) ∈ frm ++ rest := List.mem_append_right _ h1
    replace h2 := List.mem_append_right frm h2
    have had : a1 ≠ d1 := fun e => by
      subst e
      exact absurd (congrArg Obj.cls (newsInj N h1 h2)) (by simp)
    have h1' := mem_offI.mpr (And.intro h1 had)
    have N1 := offCons N h2
    have hoff : ∀ p ∈ offI d1 (frm ++ rest), p.1 ≠ d1 := fun p hp => (mem_offI.mp hp).2
    have hin : ∀ p ∈ rest, p.1 = d1 → p = (d1, vecD w.params l1 b t1 t2 t3 t4 t5 t6) := fun p hp e => by
      obtain ⟨pa, po⟩ := p
      dsimp only at e
      subst e
      rw [newsInj N (List.mem_append_right _ hp) h2]
    clear N
    walk_at "enter 39"
    k_steps
    refine ret _ _ _ _ (by assumption) (by assumption) ⟨rfl, fun p hp => .tail _ (mem_offI.mpr ⟨List.mem_append_left _ hp, hdis p hp _ hdr⟩), rest.map fun p => if p.1 = d1 then (d1, vecD w.params l1 true t1 t2 t3 t4 t5 t6) else p, ?_, ?_, ?_⟩
    · intro p hp
      obtain ⟨q, hq, rfl⟩ := List.mem_map.mp hp
      split
      · exact .head _
      · rename_i hne
        exact .tail _ (mem_offI.mpr ⟨List.mem_append_right _ hq, hne⟩)
    · intro a o hm
      by_cases e : a = d1
      · right
        have h9 := hin _ hm e
        refine ⟨l1, b, t1, t2, t3, t4, t5, t6, congrArg Prod.snd h9, List.mem_map.mpr ⟨_, hm, ?_⟩⟩
        rw [if_pos e, e]
      · left
        refine List.mem_map.mpr ⟨_, hm, ?_⟩
        rw [if_neg e]
    · intro q hq
      obtain ⟨p, hp, rfl⟩ := List.mem_map.mp hq
      refine ⟨p, hp, ?_⟩
      split
      · assumption
      · rfl
  | call ts =>
    simp only [TreeIn] at R
    obtain ⟨a1, d1, l1, g, vs, gs, n, n', t1, t2, t3, t4, t5, t6, rfl, h1, h2, h3, h4, h5, h6, h7⟩ := R
    replace h1 : (a1, instObj 89 d1) ∈ frm ++ rest := List.mem_append_right _ h1
    replace h2 := List.mem_append_right frm h2
    walk_at "enter 39"
    k_steps
    exact ret _ _ _ _ (by assumption) (by assumption) ⟨rfl, fun p hp => List.mem_append_left _ hp, rest, fun p hp => List.mem_append_right _ hp, .refl, fun q hq => ⟨q, hq, rfl⟩⟩

theorem allLt_exW {d : Addr} : ∀ {l : List (Addr × Obj)}, AllLt d l → ∀ p ∈ l, p.1 < d := fun h => tb_ltOf h
theorem nameLt {l : List (Addr × Obj)} {d : Addr} (_ : ∀ p ∈ l, p.1 < d) : ∃ x, x = d := ⟨d, rfl⟩
theorem nameLt2 {l : List (Addr × Obj)} {a d : Addr} (_ : a < d ∧ AllLt d l) : ∃ x, x = d := ⟨d, rfl⟩
/-! substitute_in -/
def SubstP (P : Params) (t : Tree) (frm rest : List (Addr × Obj)) (news' : List (Addr × Obj)) (r : Value) : Prop :=
  ∃ rest', TreeIn P rest' t r ∧ Sh P rest rest' ∧ (∀ p ∈ frm, p ∈ news') ∧ (∀ p ∈ rest', p ∈ news') ∧ ∀ p ∈ frm, ∀ q ∈ rest', p.1 ≠ q.1
theorem SubstP.call {P : Params} {il tg x' d' : Addr} {n1 n2 : Nat} {frm rest rest' nx : List (Addr × Obj)} {us : List Tree} {its gts : List Value} {t1 t2 t3 t4 t5 t6 : Tok} (hlt : ∀ p ∈ nx, p.1 < d') (hl2 : d' < x') (hix : (il, listOf (List.toArray its) n1) ∈ nx) (hgx : (tg, listOf (List.toArray gts) n2) ∈ nx)
    (hfx : ∀ p ∈ frm, p ∈ nx) (hrx : ∀ p ∈ rest', p ∈ nx) (hsh : Sh P rest rest') (hTs : TreesIn P rest' us its) (hgl : gts.length = its.length) (hgt : ∀ v ∈ gts, TagV v) (hdx : ∀ p ∈ frm, ∀ q ∈ rest', p.1 ≠ q.1) (hfil : ∀ p ∈ frm, p.1 ≠ il) (hftg : ∀ p ∈ frm, p.1 ≠ tg) :
    SubstP P (.call us) frm rest ((x', instObj 89 d') :: (d', callD P il tg t1 t2 t3 t4 t5 t6) :: nx) (.ref x') := by
  refine ⟨(x', instObj 89 d') :: (d', callD P il tg t1 t2 t3 t4 t5 t6) :: (il, listOf (List.toArray its) n1) :: (tg, listOf (List.toArray gts) n2) :: rest', ?_, hsh.trans (.sub fun p hp => .tail _ (.tail _ (.tail _ (.tail _ hp)))), fun p hp => .tail _ (.tail _ (hfx p hp)), ?_, ?_⟩
  · simp only [TreeIn]
    exact ⟨x', d', il, tg, its, gts, n1, n2, t1, t2, t3, t4, t5, t6, rfl, .head _, .tail _ (.head _), .tail _ (.tail _ (.head _)), .tail _ (.tail _ (.tail _ (.head _))), hgl, hgt, hTs.mono fun p hp => .tail _ (.tail _ (.tail _ (.tail _ hp)))⟩
  · exact List.forall_mem_cons.mpr ⟨.head _, List.forall_mem_cons.mpr ⟨.tail _ (.head _), List.forall_mem_cons.mpr ⟨.tail _ (.tail _ hix), List.forall_mem_cons.mpr ⟨.tail _ (.tail _ hgx), fun p hp => .tail _ (.tail _ (hrx p hp))⟩⟩⟩⟩
  · exact fun p hp => List.forall_mem_cons.mpr ⟨Nat.ne_of_lt (Nat.lt_trans (hlt p (hfx p hp)) hl2), List.forall_mem_cons.mpr ⟨Nat.ne_of_lt (hlt p (hfx p hp)), List.forall_mem_cons.mpr ⟨hfil p hp, List.forall_mem_cons.mpr ⟨hftg p hp, hdx p hp⟩⟩⟩⟩
def isDict (w : World) (o : Obj) (kvs : List (Str × Value)) : Prop := o.IsDictOf (PySem.strKind PySem.Challenge.rw_ov0039_01.row.prog w) kvs
theorem tel_subst {w : World} {mean : ExcName → Option Value} {mg mb : Str → Option Value} (W : Nat) (hW : W ≤ 1000) (T : Addr) (o : Obj) (kvs : List (Str × Value)) (tab : Tab) (hO : isDict w o kvs) (hlo : (T == sysModules) = false) (hrow : ∀ row, tab.dots = some row → row.length ≤ 2) :
    ∀ (D : Nat) (t : Tree) (v : Value) (frm rest : List (Addr × Obj)), Ok W D t → TreeIn w.params rest t v → (T, o) ∈ frm → KvsIn w.params rest kvs tab → (∀ p ∈ frm, ∀ q ∈ rest, p.1 ≠ q.1) →
    Tel w mean mg mb 128 (D + 4) [v, .ref T] (frm ++ rest) (SubstP w.params (subst tab t) frm rest) := by
  have leaf : ∀ (D : Nat) (t : Tree) (v : Value) (frm rest : List (Addr × Obj)), (∀ ts, t ≠ .call ts) → TreeIn w.params rest t v → (T, o) ∈ frm → KvsIn w.params rest kvs tab → (∀ p ∈ frm, ∀ q ∈ rest, p.1 ≠ q.1) →
      Tel w mean mg mb 128 (D + 4) [v, .ref T] (frm ++ rest) (SubstP w.params (subst tab t) frm rest) := by
    intro D t v frm rest hok R hT hK hdis
    intro dp un gd cn cs a ccd cl outer A₀ base h₀ L m s Q E B F X N TT hk hd hu ret
    revert X; k_fill; intro X
    refine wpAny_call ?_
    have hrl : dp < recursionLimit := by unfold recursionLimit; omega
    have hrl2 : dp + 3 < recursionLimit := by unfold recursionLimit; omega
    cases t with
    | sym x =>
      have R0 := R
      simp only [TreeIn] at R
      obtain ⟨a1, d1, t1, t2, t3, t4, t5, rfl, h1, h2⟩ := R
      replace h1 := List.mem_append_right frm h1
      replace h2 := List.mem_append_right frm h2
      have same : subst tab (.sym x) = .sym x → SubstP w.params (subst tab (.sym x)) frm rest (frm ++ rest) (.ref a1) := fun e => ⟨rest, by rw [e]; exact R0, .refl, fun p hp => List.mem_append_left _ hp, fun p hp => List.mem_append_right _ hp, hdis⟩
      by_cases hx : x = dotsS
      · subst hx
        have hsame := same (by rw [subst, if_pos rfl])
        clear R0
        walk_at "enter 39"
        k_steps
        refine Hold.mk ?_
        rename News _ _ _ _ => N1
        refine kda_in N1 (List.mem_append_left _ hT) hO hlo (strKind_is _ _ _ _) _ rfl ?_
        try dsimp only
        k_steps
        all_goals exact ret _ _ _ _ (by assumption) (by assumption) hsame
      · cases htr : tab.tr x with
        | none =>
          have hsame := same (by rw [subst, if_neg hx, htr]; rfl)
          walk_at "enter 39"
          k_steps
          refine Hold.mk ?_
          rename News _ _ _ _ => N1
          refine kda_in N1 (List.mem_append_left _ hT) hO hlo (strKind_is _ _ _ _) false (by rw [hK.tr0 x hx htr]; rfl) ?_
          try dsimp only
          k_steps
          exact ret _ _ _ _ (by assumption) (by assumption) hsame
        | some t9 =>
          obtain ⟨v9, hv9, hT9⟩ := hK.tr x hx t9 htr
          walk_at "enter 39"
          k_steps
          refine Hold.mk ?_
          rename News _ _ _ _ => N1
          refine kda_in N1 (List.mem_append_left _ hT) hO hlo (strKind_is _ _ _ _) true (by rw [hv9]; rfl) ?_
          try dsimp only
          k_steps
          · refine Hold.mk ?_
            rename News _ _ _ _ => N2
            k_dflt (refine' kda_item N2 (List.mem_append_left _ hT) hO (strKind_is _ _ _ _) hv9 ?_ (by with_unfolding_all rfl) (by intro _; with_unfolding_all rfl))
            try dsimp only
            k_steps
            refine Hold.mk ?_
            k_dflt (refine' tel_use (tel_share t9 v9 frm rest hT9 hdis) ?k1 ?k2 ?k3 ?k4 ?k5 ?k6 ?k7 ?k8 ?k9 ?_)
            case k1 => k_asm
            case k2 => k_asm
            case k3 => k_asm
            case k4 => k_asm
            case k5 => k_asm
            case k6 => rfl
            case k7 => show dp + 1 + _ < _; omega
            case k8 => show un + 3 + _ < _; omega
            case k9 => exact fun p hp => hp
            rintro r news' h' tk' F4 N4 ⟨rfl, hfrm, rest', hr1, hr2, hr3⟩
            k_steps
            refine ret _ _ _ _ (by assumption) (by assumption) ⟨rest', by rw [subst, if_neg hx, htr]; exact hT9.sh hr2, hr2, hfrm, hr1, fun p hp q hq => ?_⟩
            obtain ⟨q0, hq0, e0⟩ := hr3 q hq
            rw [← e0]
            exact hdis p hp q0 hq0
          · rename (x != Str.ofString "...") = false => hq
            exact absurd (by simpa using hq) hx
    | vec k =>
      have R0 := R
      simp only [TreeIn] at R
      obtain ⟨a1, d1, l1, b, t1, t2, t3, t4, t5, t6, t7, n, rfl, h1, h2, h3⟩ := R
      replace h1 := List.mem_append_right frm h1
      replace h2 := List.mem_append_right frm h2
      walk_at "enter 39"
      k_steps
      exact ret _ _ _ _ (by assumption) (by assumption) ⟨rest, by rw [subst]; exact R0, .refl, fun p hp => List.mem_append_left _ hp, fun p hp => List.mem_append_right _ hp, hdis⟩
    | call ts => exact absurd rfl (hok ts)
  intro D
  induction D with
  | zero =>
    intro t v frm rest hok R hT hK hdis
    cases t with
    | sym x => exact leaf _ _ v _ _ (fun _ e => nomatch e) R hT hK hdis
    | vec k => exact leaf _ _ v _ _ (fun _ e => nomatch e) R hT hK hdis
    | call ts => exact hok.elim
  | succ D ih =>
    intro t v frm rest hok R hT hK hdis
    cases t with
    | sym x => exact leaf _ _ v _ _ (fun _ e => nomatch e) R hT hK hdis
    | vec k => exact leaf _ _ v _ _ (fun _ e => nomatch e) R hT hK hdis
    | call ts =>
      intro dp un gd cn cs a ccd cl outer A₀ base h₀ L m s Q E B F X N TT hk hd hu ret
      revert X; k_fill; intro X
      refine wpAny_call ?_
      have hrl : dp < recursionLimit := by unfold recursionLimit; omega
      have hrl2 : dp + 3 < recursionLimit := by unfold recursionLimit; omega
      simp only [TreeIn] at R
      obtain ⟨a1, d1, l1, g, vs, gs, n, n', t1, t2, t3, t4, t5, t6, rfl, h1, h2, h3, h4, h5, h6, h7⟩ := R
      have h1a := List.mem_append_right frm h1
      have h2a := List.mem_append_right frm h2
      have hlen : ts.length ≤ W := hok.1
      have hvl := h7.length
      walk_at "enter 39"
      k_steps
      refine Hold.mk ?_
      rename News _ _ _ _ => N1
      refine my_len N1 (.tail _ (.tail _ (List.mem_append_right _ h3))) (by omega) ?_
      try dsimp only
      k_steps
      refine Hold.mk ?_
      rename Fr _ _ _ _ => F4
      rename (∀ p ∈ frm ++ rest, _ < _) => hil
      rename (_ ∧ AllLt _ (frm ++ rest)) => htg
      obtain ⟨il, rfl⟩ := nameLt hil
      obtain ⟨tg, rfl⟩ := nameLt2 htg
      have hiltg : il ≠ tg := Nat.ne_of_lt htg.1
      have hfil : ∀ p ∈ frm, _ := fun p hp => Nat.ne_of_lt (hil p (List.mem_append_left _ hp))
      have hftg : ∀ p ∈ frm, _ := fun p hp => Nat.ne_of_lt (allLt_exW htg.2 p (List.mem_append_left _ hp))
      have hro : ∀ q ∈ rest, _ ∧ _ := fun q hq => ⟨Nat.ne_of_lt (hil q (List.mem_append_right _ hq)), Nat.ne_of_lt (allLt_exW htg.2 q (List.mem_append_right _ hq))⟩
      refine range1_rows F4 N1 ?_
      intro h9 tk9 u1 u2 u3 hR F10 N10 _
      k_steps
      refine Hold.mk ?_
      k_dflt (refine' for_range (fun i m nx => m (Str.ofString "e") = some (.ref a1) ∧ m (Str.ofString "table") = some (.ref T) ∧ m (Str.ofString "items") = some (.ref _) ∧ m (Str.ofString "tags") = some (.ref _) ∧ SubJ w.params _ _ frm rest nx (substL tab (ts.take i))) rfl hR (small_one (by decide) (by decide) (by omega) (by omega)) (rangeSize_nat _ _) F10 N10 ⟨rfl, rfl, rfl, rfl, [], [], 0, 0, rest, .tail _ (.head _), .head _, fun p hp => .tail _ (.tail _ (List.mem_append_left _ hp)), fun p hp => .tail _ (.tail _ (List.mem_append_right _ hp)), .refl, .nil, rfl, (fun _ h => nomatch h), hdis, hro⟩ ?turn ?done)
      case turn =>
        rintro i m1 nx h tk I it tp hik ⟨hm1, hm2, hm3, hm4, its, gts, n1, n2, rest', hix, hgx, hfx, hrx, hsh, hTs, hgl, hgt, hdx, hox⟩ hI1 hI2 F5 N5
        have hiv : i < vs.length := by omega
        have hvi : vs[i]? = some vs[i] := List.getElem?_eq_getElem hiv
        obtain ⟨t, ht, hTi⟩ := (h7.sh hsh).get hvi
        have x1 := hrx _ (hsh.inst h1)
        have x2 := hrx _ (hsh.callD h2)
        have x3 := hrx _ (hsh.list h3)
        have F6 := frLoop F5 [(Str.ofString "e", _), (Str.ofString "table", _), (Str.ofString "items", _), (Str.ofString "tags", _)] rfl (fa4 hm1 hm2 hm3 hm4)
        have hIil := hI2 _ hix
        have hItg := hI2 _ hgx
        have hfI : ∀ p ∈ frm, p.1 ≠ I := fun p hp => hI2 p (hfx p hp)
        have hrI : ∀ q ∈ rest', q.1 ≠ I := fun q hq => hI2 q (hrx q hq)
        have htk : substL tab (ts.take (i + 1)) = substL tab (ts.take i) ++ spl tab t := by rw [List.take_add_one, ht, substL_append]; simp [substL_one]
        have hil1 : its.length ≤ 10000 := by
          have b1 := substL_length hrow (ts.take i)
          have b2 := hTs.length
          have b3 : (ts.take i).length ≤ ts.length := List.length_take_le' _ _
          omega
        clear F5 F4 N1 F10 N10
        show wpAny _ _ _ _ _ _
        try k_fold
        k_steps
        refine Hold.mk ?_
        rename News _ _ _ _ => N7
        k_dflt (refine' my_item N7 (.tail _ x3) (by omega) (by omega) (v := vs[i]) (by simpa using hvi) ?_ (by with_unfolding_all rfl))
        try dsimp only
        walk1
        walk1
        walk1
        rename Fr _ _ _ _ => F8
        rename News _ _ _ _ => N8
        refine if_test (hasDots tab t) ?test ?cont
        case test =>
          cases t with
          | sym x =>
            simp only [TreeIn] at hTi
            obtain ⟨a2, d2, r1, r2, r3, r4, r5, e2, y1, y2⟩ := hTi
            replace y1 := hrx _ y1
            replace y2 := hrx _ y2
            rw [e2] at F8
            by_cases hx : x = dotsS
            · subst hx
              have hds : (valueAt kvs dotsS).isSome = tab.dots.isSome := by
                cases hd : tab.dots with
                | none => rw [hK.dots0 hd]; rfl
                | some row => obtain ⟨_, _, _, e9, _⟩ := hK.dots row hd; rw [e9]; rfl
              k_steps
              refine Hold.mk ?_
              refine kda_in N8 (.tail _ (hfx _ hT)) hO hlo (strKind_is _ _ _ _) tab.dots.isSome hds ?_
              try dsimp only
              k_steps
              all_goals exact TestP.mk (by simp [hasDots, isDots, *])
            · k_steps
              · rename (x == Str.ofString "...") = true => hq
                exact absurd (by simpa using hq) hx
              · exact TestP.mk (by simp [hasDots, isDots, hx])
          | vec k =>
            simp only [TreeIn] at hTi
            obtain ⟨a2, d2, r1, b2, r2, r3, r4, r5, r6, r7, r8, r9, e2, y1, y2, y3⟩ := hTi
            replace y1 := hrx _ y1
            replace y2 := hrx _ y2
            rw [e2] at F8
            k_steps
            exact TestP.mk rfl
          | call us =>
            simp only [TreeIn] at hTi
            obtain ⟨a2, d2, r1, r2, r3, r4, r5, r6, r7, r8, r9, r10, r11, r12, e2, y1, y2, y3⟩ := hTi
            replace y1 := hrx _ y1
            replace y2 := hrx _ y2
            rw [e2] at F8
            k_steps
            exact TestP.mk rfl
        case cont =>
          intro tk8
          cases hhd : hasDots tab t with
          | true =>
            obtain ⟨row, hrw, hspl⟩ := spl_yes hhd
            rw [if_pos rfl]
            obtain ⟨lr, rvs, nr, hvl, hlr, hRow⟩ := hK.dots row hrw
            have hrow2 := hrow row hrw
            k_steps
            refine Hold.mk ?_
            k_dflt (refine' kda_item N8 (.tail _ (hfx _ hT)) hO (strKind_is _ _ _ _) hvl ?_ (by with_unfolding_all rfl) (by intro _; with_unfolding_all rfl))
            try dsimp only
            k_steps
            refine Hold.mk ?_
            rename Fr _ _ _ _ => F9
            k_dflt (refine' for_listT (fun j m ny => m (Str.ofString "e") = some (.ref a1) ∧ m (Str.ofString "table") = some (.ref T) ∧ m (Str.ofString "items") = some (.ref _) ∧ m (Str.ofString "tags") = some (.ref _) ∧ SubJ w.params _ _ ((I, it) :: frm) rest' ny (substL tab (ts.take i) ++ row.take j)) rfl (.tail _ (hrx _ (hsh.list hlr))) F9 N8 ⟨rfl, rfl, rfl, rfl, its, gts, n1, n2, rest', .tail _ hix, .tail _ hgx, (List.forall_mem_cons.mpr ⟨.head _, fun p hp => .tail _ (hfx p hp)⟩), fun p hp => .tail _ (hrx p hp), .refl, (by simp; exact hTs), hgl, hgt, (List.forall_mem_cons.mpr ⟨fun q hq => (hrI q hq).symm, hdx⟩), hox⟩ (fun i m ny hj => by obtain ⟨_, _, _, _, _, _, _, _, rr, _, _, _, q4, q5, _⟩ := hj; exact q4 _ (q5.list (hsh.list hlr))) hRow.refs ?turn2 ?done2)
            case turn2 =>
              rintro j v2 m2 ny h9b tk9b I2 it2 hv2 ⟨g1, g2, g3, g4, its2, gts2, n3, n4, rest2, b1, b2, b3, b4, b5, b6, b7, b8, b9, b10⟩ hI3 hI4 F15 N15
              obtain ⟨t2, a2, tag, u, n9, ht2, rfl, z1, ztag, zT⟩ := (hRow.sh (hsh.trans b5)).get hv2
              have z2 := b4 _ z1
              have hjr : j < row.length := (List.getElem?_eq_some_iff.mp ht2).1
              have F16 := frSet F15 [(Str.ofString "e", _), (Str.ofString "table", _), (Str.ofString "items", _), (Str.ofString "tags", _)] (fa4 g1 g2 g3 g4)
              clear F15 F9
              show wpAny _ _ _ _ _ _
              try k_fold
              k_steps
              refine Hold.mk ?_
              have hI2il := hI4 _ b1
              have hI2tg := hI4 _ b2
              k_dflt (refine' tel_use (tel_share t2 u ((_, listOf (List.toArray its2) n3) :: (_, listOf (List.toArray gts2) n4) :: (I2, it2) :: (I, it) :: frm) rest2 zT (by
                                intro p hp q hq
                                rcases List.mem_cons.mp hp with rfl | hp
                                · exact (b10 q hq).1.symm
                                · rcases List.mem_cons.mp hp with rfl | hp
                                  · exact (b10 q hq).2.symm
                                  · rcases List.mem_cons.mp hp with rfl | hp
                                    · exact (hI4 _ (b4 q hq)).symm
                                    · exact b9 p hp q hq)) ?h1_1 ?h1_2 ?h1_3 ?h1_4 ?h1_5 ?h1_6 ?h1_7 ?h1_8 ?h1_9 ?_)
              case h1_1 => k_asm
              case h1_2 => k_asm
              case h1_3 => k_asm
              case h1_4 => k_asm
              case h1_5 => k_asm
              case h1_6 => rfl
              case h1_7 => show dp + 1 + _ < _; omega
              case h1_8 => show un + 3 + _ < _; omega
              case h1_9 => intro p hp; rcases List.mem_append.mp hp with hp | hp; rcases List.mem_cons.mp hp with rfl | hp; exact .tail _ b1; rcases List.mem_cons.mp hp with rfl | hp; exact .tail _ b2; rcases List.mem_cons.mp hp with rfl | hp; exact .head _; exact .tail _ (b3 p hp); exact .tail _ (b4 p hp)
              rintro r3 news3 h3' tk3' F17 N17 ⟨rfl, hf3, rest3, hr3, hsh3, hdom3⟩
              have hd3 : ∀ p ∈ (il, listOf (List.toArray its2) n3) :: (tg, listOf (List.toArray gts2) n4) :: (I2, it2) :: (I, it) :: frm, ∀ q ∈ rest3, p.1 ≠ q.1 := by
                intro p hp q hq
                obtain ⟨q0, hq0, e0⟩ := hdom3 q hq
                rw [← e0]
                rcases List.mem_cons.mp hp with rfl | hp
                · exact (b10 q0 hq0).1.symm
                · rcases List.mem_cons.mp hp with rfl | hp
                  · exact (b10 q0 hq0).2.symm
                  · rcases List.mem_cons.mp hp with rfl | hp
                    · exact (hI4 _ (b4 q0 hq0)).symm
                    · exact b9 p hp q0 hq0
              have hil3 := hf3 _ (.head _)
              have htg3 := mem_offI.mpr (And.intro (hf3 _ (.tail _ (.head _))) hiltg.symm)
              have hil2n : its2.length ≤ 10000 := by
                have c1 := substL_length hrow (ts.take i)
                have c2 := b6.length
                have c3 : (ts.take i).length ≤ ts.length := List.length_take_le' _ _
                have c4 : (row.take j).length ≤ row.length := List.length_take_le' _ _
                rw [List.length_append] at c2
                omega
              k_steps
              refine Hold.mk ?_
              rename Fr _ _ _ _ => F18
              rename News _ _ _ _ => N18
              refine my_append F18 N18 hil3 (by omega) ?_
              intro h19 F19 N19
              k_steps
              refine Hold.mk ?_
              rename Fr _ _ _ _ => F20
              rename News _ _ _ _ => N20
              refine my_append F20 N20 (.tail _ htg3) (by omega) ?_
              intro h21 F21 N21
              k_steps
              have htr : row.take (j + 1) = row.take j ++ [t2] := by rw [List.take_add_one, ht2]; rfl
              refine LStep.next (by assumption) (by assumption) (.tail _ (mem_offI.mpr ⟨.tail _ (mem_offI.mpr ⟨hf3 _ (.tail _ (.tail _ (.head _))), hI2il.symm⟩), hI2tg.symm⟩)) ⟨rfl, rfl, rfl, rfl, ?_⟩
              rw [htr, ← List.append_assoc]
              exact SubJ.snoc hiltg hI2il hI2tg (List.forall_mem_cons.mpr ⟨⟨hI4 _ (b3 _ (.head _)), hIil.symm, hItg.symm⟩, fun p hp => ⟨hI4 p (b3 p (.tail _ hp)), hfil p hp, hftg p hp⟩⟩) (fun p hp => hf3 p (.tail _ (.tail _ (.tail _ hp)))) hr3 (b5.trans hsh3) (b6.sh hsh3) (zT.sh hsh3) b7 b8 ztag (fun p hp => hd3 p (.tail _ (.tail _ (.tail _ hp)))) (fun q hq => ⟨(hd3 _ (.head _) q hq).symm, (hd3 _ (.tail _ (.head _)) q hq).symm⟩) (fun q hq => (hd3 _ (.tail _ (.tail _ (.head _))) q hq).symm)
            case done2 =>
              rintro m2 ny h9b tk9b ⟨g1, g2, g3, g4, hsub⟩ F15 N15
              have F16 := frSet F15 [(Str.ofString "e", _), (Str.ofString "table", _), (Str.ofString "items", _), (Str.ofString "tags", _)] (fa4 g1 g2 g3 g4)
              clear F15 F9
              have hIt : (I, it) ∈ ny := by obtain ⟨_, _, _, _, _, _, _, q3, _⟩ := hsub; exact q3 _ (.head _)
              show wpAny _ _ _ _ _ _
              try k_fold
              k_steps
              refine LStep.next (by assumption) (by assumption) hIt ⟨rfl, rfl, rfl, rfl, ?_⟩
              rw [htk, hspl]
              rw [hRow.length, List.take_length] at hsub
              exact hsub.outer hsh hIil hItg hfI
          | false =>
            rw [if_neg (by decide)]
            have hspl := spl_no hhd
            have hok2 : Ok W D t := hok.2 t (List.mem_of_getElem? ht)
            k_steps
            refine Hold.mk ?_
            k_dflt (refine' tel_use (ih t vs[i] ((_, listOf (List.toArray its) n1) :: (_, listOf (List.toArray gts) n2) :: (I, it) :: frm) rest' hok2 hTi (.tail _ (.tail _ (.tail _ hT))) (hK.sh hsh) (by
                            intro p hp q hq
                            simp only [List.mem_cons] at hp
                            rcases hp with rfl | rfl | rfl | hp
                            · exact (hox q hq).1.symm
                            · exact (hox q hq).2.symm
                            · exact (hrI q hq).symm
                            · exact hdx p hp q hq)) ?h2_1 ?h2_2 ?h2_3 ?h2_4 ?h2_5 ?h2_6 ?h2_7 ?h2_8 ?h2_9 ?_)
            case h2_1 => k_asm
            case h2_2 => k_asm
            case h2_3 => k_asm
            case h2_4 => exact N8
            case h2_5 => k_asm
            case h2_6 => rfl
            case h2_7 => show dp + 1 + _ < _; omega
            case h2_8 => show un + 3 + _ < _; omega
            case h2_9 => intro p hp; simp only [List.mem_append, List.mem_cons] at hp; rcases hp with (rfl | rfl | rfl | hp) | hp; exact .tail _ hix; exact .tail _ hgx; exact .head _; exact .tail _ (hfx p hp); exact .tail _ (hrx p hp)
            rintro r news' h' tk' F9 N9 ⟨rest2, hTr, hsh2, hf2, hr2, hd2⟩
            have hil2 := hf2 _ (.head _)
            have htg2 := mem_offI.mpr (And.intro (hf2 _ (.tail _ (.head _))) hiltg.symm)
            have x1b := mem_offI.mpr (And.intro (hr2 _ (hsh2.inst (hsh.inst h1))) (hd2 _ (.head _) _ (hsh2.inst (hsh.inst h1))).symm)
            have x2b := mem_offI.mpr (And.intro (hr2 _ (hsh2.callD (hsh.callD h2))) (hd2 _ (.head _) _ (hsh2.callD (hsh.callD h2))).symm)
            have x4b := mem_offI.mpr (And.intro (hr2 _ (hsh2.list (hsh.list h4))) (hd2 _ (.head _) _ (hsh2.list (hsh.list h4))).symm)
            k_steps
            refine Hold.mk ?_
            rename Fr _ _ _ _ => F11
            rename News _ _ _ _ => N11
            refine my_append F11 N11 hil2 (by omega) ?_
            intro h12 F12 N12
            k_steps
            refine Hold.mk ?_
            have hgi : gs[i]? = some gs[i] := List.getElem?_eq_getElem (by omega)
            k_dflt (refine' my_item N12 (.tail _ x4b) (by omega) (by omega) (v := gs[i]) (by simpa using hgi) ?_ (by with_unfolding_all rfl))
            try dsimp only
            k_steps
            refine Hold.mk ?_
            rename Fr _ _ _ _ => F13
            rename News _ _ _ _ => N13
            refine my_append F13 N13 (.tail _ htg2) (by omega) ?_
            intro h14 F14 N14
            k_steps
            refine LStep.next (by assumption) (by assumption) (.tail _ (mem_offI.mpr ⟨.tail _ (mem_offI.mpr ⟨hf2 _ (.tail _ (.tail _ (.head _))), hIil.symm⟩), hItg.symm⟩)) ⟨rfl, rfl, rfl, rfl, ?_⟩
            rw [htk, hspl]
            exact SubJ.snoc hiltg hIil hItg (fun p hp => ⟨hfI p hp, hfil p hp, hftg p hp⟩) (fun p hp => hf2 p (.tail _ (.tail _ (.tail _ hp)))) hr2 (hsh.trans hsh2) (hTs.sh hsh2) hTr hgl hgt (h6 _ (List.getElem_mem _)) (fun p hp => hd2 p (.tail _ (.tail _ (.tail _ hp)))) (fun q hq => ⟨(hd2 _ (.head _) q hq).symm, (hd2 _ (.tail _ (.head _)) q hq).symm⟩) (fun q hq => (hd2 _ (.tail _ (.tail _ (.head _))) q hq).symm)
      case done =>
        rintro m1 nx h tk ⟨hm1, hm2, hm3, hm4, its, gts, n1, n2, rest', hix, hgx, hfx, hrx, hsh, hTs, hgl, hgt, hdx, hox⟩ F5 N5
        have F6 := frSet F5 [(Str.ofString "items", _), (Str.ofString "tags", _)] (fa2 hm3 hm4)
        clear F5 F4 N1 F10 N10
        have hln : ((vs.length : Int) - 0).toNat = ts.length := by omega
        rw [hln, List.take_length] at hTs
        show wpAny _ _ _ _ _ _
        try k_fold
        k_steps
        rename (∀ p ∈ nx, _ < _) => hlt20
        exact ret _ _ _ _ (by assumption) (by assumption) (by rw [subst]; exact SubstP.call hlt20 (by assumption) hix hgx hfx hrx hsh hTs hgl hgt hdx hfil hftg)

theorem comp_restT {prog : Program} {w : World} {A : Around} {s : Shared} {h₀ : Heap} {L : Addr} {m : Str → Option Value} {env : Env} {ct elt : Expr} {x : Str} {scope : Scope} {cl : List (Str × Addr)} {S : List (Addr × Obj) → Prop} {P : Nat → Value → Prop} {Fin : List Value → List (Addr × Obj) → Prop} {n : Nat} {news : List (Addr × Obj)}
    (J : Nat → List Value → List (Addr × Obj) → Prop) (hj : J 0 [] news)
    (turn : ∀ i ys nw v I oI C oC D m₂ h tk (E' : Value → Shared → Prop), i < n → J i ys nw → P i v → LCg.NsObj oC m₂ → m₂ x = some v → Fr h₀ L h m → News h₀ L h ((I, oI) :: (C, oC) :: (D, LCg.lst ys) :: nw) → (∀ p ∈ nw, p.1 ≠ I ∧ p.1 ≠ C ∧ p.1 ≠ D) → ((@Ne Nat I C) ∧ (@Ne Nat I D) ∧ (@Ne Nat C D)) →
      wpAny (model prog w) A (isTrue ct (compEnvC scope cl C env) (eval ct (compEnvC scope cl C env))) (fun ok s' => if ok = true then
        wpAny (model prog w) A (eval elt (compEnvC scope cl C env)) (LCg.CompEnd h₀ L m { s with heap := h, toks := tk } I oI C oC D (LCg.lst ys) S (fun y nw' => J (i + 1) (ys ++ [y]) nw')) E' s'
        else LCg.CompEnd h₀ L m { s with heap := h, toks := tk } I oI C oC D (LCg.lst ys) S (fun _ nw' => J (i + 1) ys nw') Value.none s') E' { s with heap := h, toks := tk })
    (done : ∀ ys nw, J n ys nw → Fin ys nw) : LCt.CompRestT prog w A h₀ L m env ct elt x scope cl s S P Fin n 0 [] news := by
  have gen : ∀ (k i : Nat) (ys : List Value) (nw : List (Addr × Obj)), i + k = n → J i ys nw → LCt.CompRestT prog w A h₀ L m env ct elt x scope cl s S P Fin k i ys nw := by
    intro k
    induction k with
    | zero =>
      intro i ys nw hi hJ
      rw [Nat.add_zero] at hi
      subst hi
      exact .zero (done _ _ hJ)
    | succ k ih =>
      intro i ys nw hi hJ
      refine .succ fun v I oI C oC D m₂ h tk E' hv hC hx F N off ne => ?_
      refine wpAny_mono (turn i ys nw v I oI C oC D m₂ h tk E' (by omega) hJ hv hC hx F N off.mem ne) (fun ok s' p => ?_) fun _ _ e => e
      cases ok with
      | true =>
        simp only [if_true] at p ⊢
        refine wpAny_mono p (fun y s₂ q => ?_) fun _ _ e => e
        obtain ⟨h', tk', nw', e, F', N', o', hS, hJ'⟩ := q
        exact ⟨h', tk', nw', e, F', N', o', hS, ih _ _ _ (by omega) hJ'⟩
      | false =>
        simp only [Bool.false_eq_true, if_false] at p ⊢
        obtain ⟨h', tk', nw', e, F', N', o', hS, hJ'⟩ := p
        exact ⟨h', tk', nw', e, F', N', o', hS, ih _ _ _ (by omega) hJ'⟩
  exact gen n 0 [] news (by omega) hj
theorem LeafVs.get : ∀ {vs : List Value} {ls : List Leaf}, LeafVs vs ls → ∀ {i : Nat} {v : Value}, vs[i]? = some v → ∃ l, ls[i]? = some l ∧ LeafV v l
  | [], ls, h, i, v, e => by simp at e
  | u :: r, ls, h, i, v, e => by
    simp only [LeafVs] at h
    obtain ⟨l, m, rfl, h1, h2⟩ := h
    cases i with
    | zero => simp only [List.getElem?_cons_zero, Option.some.injEq] at e ⊢; subst e; exact ⟨l, rfl, h1⟩
    | succ i => simp only [List.getElem?_cons_succ] at e ⊢; exact h2.get e
/-! _law_texts -/
def TextsP (ls : List Leaf) (news news' : List (Addr × Obj)) (r : Value) : Prop :=
  ∃ l lv n, r = .ref l ∧ (l, listOf (List.toArray lv) n) ∈ news' ∧ LeafVs lv (texts ls) ∧ ∀ p ∈ news, p ∈ news'
theorem tel_texts {w : World} {mean : ExcName → Option Value} {mg mb : Str → Option Value} (ll : Addr) (lv : List Value) (n : Nat) (ls : List Leaf) (news : List (Addr × Obj)) (hl : (ll, listOf (List.toArray lv) n) ∈ news) (hlv : LeafVs lv ls) (hsz : ls.length ≤ 1000000) :
    Tel w mean mg mb 168 2 [.ref ll] news (TextsP ls news) := by
  intro dp un gd cn cs a ccd cl outer A₀ base h₀ L m s Q E B F X N T hk hd hu ret
  revert X; k_fill; intro X
  refine wpAny_call ?_
  have hrl : dp < recursionLimit := by unfold recursionLimit; omega
  walk_at "enter 39"
  k_steps
  refine Hold.mk ?_
  rename Fr _ _ _ _ => F1
  k_dflt (refine' LCt.ListComp_T F1 ?c1 ?c2 ?c3 ?c4 ?c5 ?_)
  case c1 => with_unfolding_all rfl
  case c2 => decide
  case c3 => rfl
  case c4 => decide
  case c5 => rfl
  k_steps
  rename News _ _ _ _ => N1
  refine LCt.CompSrcT.ledger rfl F1 N1 hl (by rw [List.size_toArray, sizeLine_eq, hlv.length]; omega) ?_
  intro g
  clear N
  refine comp_restT (fun i ys nw => LeafVs ys (texts (ls.take i)) ∧ ∀ p ∈ news, p ∈ nw) ⟨by simp [LeafVs, texts], fun p hp => hp⟩ ?turn ?done
  case turn =>
    rintro i ys nw v I oI C oC D m₂ h tk E' hi ⟨hys, hsub⟩ hv hC hx F2 N2 off ne
    clear F1 N1
    replace hv : lv[i]? = some v := by simpa using hv
    obtain ⟨l, hl1, hl2⟩ := hlv.get hv
    have htk : texts (ls.take (i + 1)) = texts (ls.take i) ++ texts [l] := by rw [List.take_add_one, hl1, texts_append]; rfl
    cases l with
    | s x =>
      obtain ⟨t, rfl⟩ := hl2
      k_steps
      refine LCg.CompEnd.intro F2 N2 nw (fun p hp => hp) (LCg.Off3.of off) (.inr ⟨_, hsub _ hl, rfl, _, rfl⟩) ⟨?_, hsub⟩
      rw [htk]
      exact hys.append ⟨_, _, rfl, ⟨_, rfl⟩, rfl⟩
    | i k =>
      obtain ⟨t, rfl⟩ := hl2
      k_steps
      refine LCg.CompEnd.intro F2 N2 nw (fun p hp => hp) (LCg.Off3.of off) (.inr ⟨_, hsub _ hl, rfl, _, rfl⟩) ⟨?_, hsub⟩
      rw [htk]
      simpa [texts, isS] using hys
  case done =>
    rintro ys nw ⟨hys, hsub⟩ D h tk F2 N2 o1
    clear F1 N1
    k_steps
    rw [List.size_toArray, hlv.length, List.take_length] at hys
    exact ret _ _ _ _ (by assumption) (by assumption) ⟨_, ys, _, rfl, .head _, hys, fun p hp => .tail _ (hsub p hp)⟩

/-! _law_put -/
def leafDots : Leaf → Bool
  | .s x => decide (x = dotsS)
  | .i _ => false
def putB1 (tab : Tab) (b : Bool) (l : Leaf) : Bool := leafDots l && (tab.dots.isSome && b)
def leafTr (tab : Tab) : Leaf → Option Tree
  | .s x => if x = dotsS then none else tab.tr x
  | .i _ => none
def putOne (tab : Tab) (b : Bool) (l : Leaf) : List Leaf :=
  if putB1 tab b l = true then leavesL (tab.dots.getD []) else match leafTr tab l with
    | some t => t.leaves
    | none => [l]
def put (tab : Tab) (b : Bool) (ls : List Leaf) : List Leaf := ls.flatMap (putOne tab b)
def PutJ (m : Str → Option Value) (T : Addr) (b : Bool) (news nx : List (Addr × Obj)) (ls : List Leaf) : Prop :=
  m (Str.ofString "table") = some (.ref T) ∧ m (Str.ofString "inside") = some (.bool b) ∧ ∃ fl lv n, m (Str.ofString "found") = some (.ref fl) ∧ (fl, listOf (List.toArray lv) n) ∈ nx ∧ LeafVs lv ls ∧ (∀ p ∈ news, p ∈ nx) ∧ ∀ p ∈ news, p.1 ≠ fl
structure TabOk (tab : Tab) : Prop where
  tr : ∀ x t, tab.tr x = some t → Ok 6 3 t
  row : ∀ row, tab.dots = some row → row.length ≤ 2 ∧ ∀ t ∈ row, Ok 6 3 t
theorem TabOk.one {tab : Tab} (h : TabOk tab) (b : Bool) (l : Leaf) : (putOne tab b l).length ≤ 432 := by
  unfold putOne
  split
  · cases hd : tab.dots with
    | none => simp [leavesL]
    | some row =>
      obtain ⟨h1, h2⟩ := h.row row hd
      have h3 := leavesL_length (W := 6) (n := 216) (ts := row) fun t ht => Nat.le_trans ((h2 t ht).leaves (by decide)) (by decide)
      simp only [Option.getD_some]
      omega
  · split
    · rename_i t ht
      cases l with
      | s x =>
        simp only [leafTr] at ht
        split at ht
        · cases ht
        · exact Nat.le_trans ((h.tr x t ht).leaves (by decide)) (by decide)
      | i k => cases ht
    · simp
theorem TabOk.put {tab : Tab} (h : TabOk tab) (b : Bool) : ∀ ls : List Leaf, (put tab b ls).length ≤ ls.length * 432
  | [] => by simp [Mine.put]
  | l :: ls => by
    have h1 := h.one b l
    have h2 := h.put b ls
    simp only [Mine.put, List.flatMap_cons, List.length_append, List.length_cons] at h2 ⊢
    omega
theorem put_take {tab : Tab} {b : Bool} {ls : List Leaf} {i : Nat} {l : Leaf} (h : ls[i]? = some l) : put tab b (ls.take (i + 1)) = put tab b (ls.take i) ++ putOne tab b l := by
  rw [List.take_add_one, h, put, List.flatMap_append]
  simp [put]
def PutP (tab : Tab) (b : Bool) (ls : List Leaf) (news news' : List (Addr × Obj)) (r : Value) : Prop :=
  ∃ l lv n, r = .ref l ∧ (l, listOf (List.toArray lv) n) ∈ news' ∧ LeafVs lv (put tab b ls) ∧ (∀ p ∈ news, p ∈ news') ∧ ∀ p ∈ news, p.1 ≠ l
theorem tel_put {w : World} {mean : ExcName → Option Value} {mg mb : Str → Option Value} (ll : Addr) (lv : List Value) (n : Nat) (ls : List Leaf) (T : Addr) (o : Obj) (kvs : List (Str × Value)) (tab : Tab) (b : Bool) (news : List (Addr × Obj))
    (hl : (ll, listOf (List.toArray lv) n) ∈ news) (hlv : LeafVs lv ls) (hsz : ls.length ≤ 1000) (hO : o.IsDictOf (PySem.strKind PySem.Challenge.rw_ov0039_01.row.prog w) kvs) (hlo : (T == sysModules) = false) (hT : (T, o) ∈ news) (hK : KvsIn w.params news kvs tab) (hok : TabOk tab) :
    Tel w mean mg mb 163 6 [.ref ll, .ref T, .bool b] news (PutP tab b ls news) := by
  intro dp un gd cn cs a ccd cl outer A₀ base h₀ L m s Q E B F X N TT hk hd hu ret
  revert X; k_fill; intro X
  refine wpAny_call ?_
  have hrl : dp < recursionLimit := by unfold recursionLimit; omega
  walk_at "enter 39"
  k_steps
  refine Hold.mk ?_
  rename Fr _ _ _ _ => F1
  rename News _ _ _ _ => N1
  rename (∀ p ∈ news, _ < _) => hlt
  k_dflt (refine' for_list (fun i m nx => PutJ m T b news nx (put tab b (ls.take i))) rfl (.tail _ hl) F1 N1 ⟨rfl, rfl, _, [], _, rfl, .head _, (by simp [put, LeafVs]), fun p hp => .tail _ hp, fun p hp => Nat.ne_of_lt (hlt p hp)⟩ (fun i m nx hj => by obtain ⟨_, _, _, _, _, _, _, _, q, _⟩ := hj; exact q _ hl) ?turn ?done)
  case turn =>
    rintro i v m1 nx h tk I it hv ⟨hm1, hm2, fl, fv, nf, hm3, hfl, hfv, hsub, hne⟩ hI1 hI2 F2 N2
    obtain ⟨l, hl1, hl2⟩ := hlv.get hv
    have F3 := frLoop F2 [(Str.ofString "table", _), (Str.ofString "inside", _), (Str.ofString "found", _)] rfl (fa3 hm1 hm2 hm3)
    have htk := put_take (tab := tab) (b := b) hl1
    have hfn : fv.length ≤ 432000 := by
      have c1 := hok.put b (ls.take i)
      have c2 := hfv.length
      have c3 : (ls.take i).length ≤ ls.length := List.length_take_le' _ _
      omega
    clear F2 F1 N1 N
    show wpAny _ _ _ _ _ _
    try k_fold
    walk1
    have hTx := hsub _ hT
    have hdots : (valueAt kvs dotsS).isSome = tab.dots.isSome := by
      cases hd : tab.dots with
      | none => rw [hK.dots0 hd]; rfl
      | some row => obtain ⟨_, _, _, e9, _⟩ := hK.dots row hd; rw [e9]; rfl
    refine if_test (putB1 tab b l) ?test1 ?cont1
    case test1 =>
      cases l with
      | s x =>
        obtain ⟨t, rfl⟩ := hl2
        by_cases hx : x = dotsS
        · subst hx
          k_steps
          refine Hold.mk ?_
          refine kda_in N2 (.tail _ hTx) hO hlo (strKind_is _ _ _ _) tab.dots.isSome hdots ?_
          try dsimp only
          k_steps
          all_goals exact TestP.mk (by simp [putB1, leafDots, *])
        · k_steps
          · rename (x == Str.ofString "...") = true => hq
            exact absurd (by simpa using hq) hx
          · exact TestP.mk (by simp [putB1, leafDots, hx])
      | i k =>
        obtain ⟨t, rfl⟩ := hl2
        k_steps
        exact TestP.mk (by simp [putB1, leafDots])
    case cont1 =>
      intro tk1
      cases hb1 : putB1 tab b l with
      | true =>
        rw [if_pos rfl]
        have hpo : putOne tab b l = leavesL (tab.dots.getD []) := by rw [putOne, if_pos hb1]
        have hdS : tab.dots.isSome = true := by
          unfold putB1 at hb1
          exact (Bool.and_eq_true_iff.mp (Bool.and_eq_true_iff.mp hb1).2).1
        obtain ⟨row, hrw⟩ := Option.isSome_iff_exists.mp hdS
        obtain ⟨lr, rvs, nr, hvl, hlr, hRow⟩ := hK.dots row hrw
        obtain ⟨hrow2, hrow3⟩ := hok.row row hrw
        k_steps
        refine Hold.mk ?_
        k_dflt (refine' kda_item N2 (.tail _ hTx) hO (strKind_is _ _ _ _) hvl ?_ (by with_unfolding_all rfl) (by intro _; with_unfolding_all rfl))
        try dsimp only
        k_steps
        refine Hold.mk ?_
        rename Fr _ _ _ _ => F9
        k_dflt (refine' for_listT (fun j m ny => PutJ m T b ((I, it) :: news) ny (put tab b (ls.take i) ++ leavesL (row.take j))) rfl (.tail _ (hsub _ hlr)) F9 N2 ⟨rfl, rfl, fl, fv, nf, rfl, .tail _ hfl, (by simpa [leavesL] using hfv), (List.forall_mem_cons.mpr ⟨.head _, fun p hp => .tail _ (hsub p hp)⟩), List.forall_mem_cons.mpr ⟨(hI2 _ hfl).symm, hne⟩⟩ (fun i m ny hj => by obtain ⟨_, _, _, _, _, _, _, _, q, _⟩ := hj; exact q _ (.tail _ hlr)) hRow.refs ?turn2 ?done2)
        case turn2 =>
          rintro j v2 m2 ny h9b tk9b I2 it2 hv2 ⟨g1, g2, fl2, fv2, nf2, g3, b1, b2, b3, b4⟩ hI3 hI4 F15 N15
          obtain ⟨t2, a2, tag, u, n9, ht2, rfl, z1, ztag, zT⟩ := hRow.get hv2
          have z2 := b3 _ (.tail _ z1)
          have F16 := frSet F15 [(Str.ofString "table", _), (Str.ofString "inside", _), (Str.ofString "found", _)] (fa3 g1 g2 g3)
          clear F15 F9
          show wpAny _ _ _ _ _ _
          try k_fold
          k_steps
          refine Hold.mk ?_
          k_dflt (refine' tel_use (tel_leaves 3 t2 u ((I2, it2) :: ny) (hrow3 t2 (List.mem_of_getElem? ht2)) (by decide) (zT.mono fun p hp => .tail _ (b3 p (.tail _ hp)))) ?ha_1 ?ha_2 ?ha_3 ?ha_4 ?ha_5 ?ha_6 ?ha_7 ?ha_8 ?ha_9 ?_)
          case ha_1 => k_asm
          case ha_2 => k_asm
          case ha_3 => k_asm
          case ha_4 => k_asm
          case ha_5 => k_asm
          case ha_6 => rfl
          case ha_7 => show dp + 1 + _ < _; omega
          case ha_8 => show un + 3 + _ < _; omega
          case ha_9 => exact fun p hp => hp
          rintro r news' h' tk' F4 N4 ⟨l2, lv2, n2, rfl, hl2', hlv2, hsub2, hne2⟩
          refine my_add F4 N4 (hsub2 _ (.tail _ b1)) hl2' ?_ ?_
          · have c1 := b2.length
            have c2 := hfv.length
            have c3 := hlv2.length
            have c4 : t2.leaves.length ≤ 6 ^ 3 := (hrow3 t2 (List.mem_of_getElem? ht2)).leaves (by decide)
            have c5 := leavesL_take ht2
            have c6 := leavesL_length (W := 6) (n := 216) (ts := row) fun t ht => Nat.le_trans ((hrow3 t ht).leaves (by decide)) (by decide)
            have c7 := leavesL_length (W := 6) (n := 216) (ts := row.take j) fun t ht => Nat.le_trans ((hrow3 t (List.mem_of_mem_take ht)).leaves (by decide)) (by decide)
            have c8 : (row.take j).length ≤ row.length := List.length_take_le' _ _
            rw [List.length_append] at c1
            omega
          intro a3 h2' F5 N5 hlt5
          k_steps
          have htr : leavesL (row.take (j + 1)) = leavesL (row.take j) ++ t2.leaves := by rw [List.take_add_one, ht2, leavesL_append]; simp [leavesL]
          refine LStep.next (by assumption) (by assumption) (.tail _ (hsub2 _ (.head _))) ⟨rfl, rfl, a3, fv2 ++ lv2, _, rfl, mem_offI.mpr ⟨.head _, Nat.ne_of_gt (hlt5 _ (hsub2 _ (.head _)))⟩, ?_, fun p hp => mem_offI.mpr ⟨.tail _ (hsub2 _ (.tail _ (b3 p hp))), hI4 p (b3 p hp)⟩, fun p hp => Nat.ne_of_lt (hlt5 p (hsub2 _ (.tail _ (b3 p hp))))⟩
          rw [htr, ← List.append_assoc]
          exact b2.append hlv2
        case done2 =>
          rintro m2 ny h9b tk9b ⟨g1, g2, fl2, fv2, nf2, g3, b1, b2, b3, b4⟩ F15 N15
          have F16 := frSet F15 [(Str.ofString "table", _), (Str.ofString "inside", _), (Str.ofString "found", _)] (fa3 g1 g2 g3)
          clear F15 F9
          show wpAny _ _ _ _ _ _
          try k_fold
          k_steps
          refine LStep.next (by assumption) (by assumption) (b3 _ (.head _)) ⟨rfl, rfl, fl2, fv2, nf2, rfl, mem_offI.mpr ⟨b1, (b4 _ (.head _)).symm⟩, ?_, fun p hp => mem_offI.mpr ⟨b3 p (.tail _ hp), hI2 p (hsub p hp)⟩, fun p hp => b4 p (.tail _ hp)⟩
          rw [htk, hpo, hrw]
          rw [hRow.length, List.take_length] at b2
          exact b2
      | false =>
        rw [if_neg (by decide)]
        walk1
        refine if_test (leafTr tab l).isSome ?test2 ?cont2
        case test2 =>
          cases l with
          | s x =>
            obtain ⟨t, rfl⟩ := hl2
            k_steps
            refine Hold.mk ?_
            by_cases hx : x = dotsS
            · subst hx
              refine kda_in N2 (.tail _ hTx) hO hlo (strKind_is _ _ _ _) tab.dots.isSome hdots ?_
              try dsimp only
              k_steps
              all_goals exact TestP.mk (by simp [leafTr, *])
            · have htr : (valueAt kvs x).isSome = (tab.tr x).isSome := by
                cases hd : tab.tr x with
                | none => rw [hK.tr0 x hx hd]; rfl
                | some t9 => obtain ⟨_, e9, _⟩ := hK.tr x hx t9 hd; rw [e9]; rfl
              refine kda_in N2 (.tail _ hTx) hO hlo (strKind_is _ _ _ _) (tab.tr x).isSome htr ?_
              try dsimp only
              k_steps
              · exact TestP.mk (by simp [leafTr, *])
              · rename (x != Str.ofString "...") = false => hq
                exact absurd (by simpa using hq) hx
              · exact TestP.mk (by simp [leafTr, *])
          | i k =>
            obtain ⟨t, rfl⟩ := hl2
            k_steps
            exact TestP.mk (by simp [leafTr])
        case cont2 =>
          intro tk2
          cases hb2 : leafTr tab l with
          | some t9 =>
            rw [if_pos (show (some t9).isSome = true from rfl)]
            have hpo : putOne tab b l = t9.leaves := by rw [putOne, if_neg (by rw [hb1]; decide), hb2]
            cases l with
            | i k => cases hb2
            | s x =>
              obtain ⟨t, rfl⟩ := hl2
              simp only [leafTr] at hb2
              split at hb2
              · cases hb2
              rename_i hx
              obtain ⟨v9, hv9, hT9⟩ := hK.tr x hx t9 hb2
              have hok9 := hok.tr x t9 hb2
              k_steps
              refine Hold.mk ?_
              k_dflt (refine' kda_item N2 (.tail _ hTx) hO (strKind_is _ _ _ _) hv9 ?_ (by with_unfolding_all rfl) (by intro _; with_unfolding_all rfl))
              try dsimp only
              k_steps
              refine Hold.mk ?_
              k_dflt (refine' tel_use (tel_leaves 3 t9 v9 ((I, it) :: nx) hok9 (by decide) (hT9.mono fun p hp => .tail _ (hsub p hp))) ?hb_1 ?hb_2 ?hb_3 ?hb_4 ?hb_5 ?hb_6 ?hb_7 ?hb_8 ?hb_9 ?_)
              case hb_1 => k_asm
              case hb_2 => k_asm
              case hb_3 => k_asm
              case hb_4 => k_asm
              case hb_5 => k_asm
              case hb_6 => rfl
              case hb_7 => show dp + 1 + _ < _; omega
              case hb_8 => show un + 3 + _ < _; omega
              case hb_9 => exact fun p hp => hp
              rintro r news' h' tk' F4 N4 ⟨l2, lv2, n2, rfl, hl2', hlv2, hsub2, hne2⟩
              refine my_add F4 N4 (hsub2 _ (.tail _ hfl)) hl2' ?_ ?_
              · have c3 := hlv2.length
                have c4 : t9.leaves.length ≤ 6 ^ 3 := hok9.leaves (by decide)
                omega
              intro a3 h2' F5 N5 hlt5
              k_steps
              refine LStep.next (by assumption) (by assumption) (.tail _ (hsub2 _ (.head _))) ⟨rfl, rfl, a3, fv ++ lv2, _, rfl, mem_offI.mpr ⟨.head _, Nat.ne_of_gt (hlt5 _ (hsub2 _ (.head _)))⟩, ?_, fun p hp => mem_offI.mpr ⟨.tail _ (hsub2 _ (.tail _ (hsub p hp))), hI2 p (hsub p hp)⟩, fun p hp => Nat.ne_of_lt (hlt5 p (hsub2 _ (.tail _ (hsub p hp))))⟩
              rw [htk, hpo]
              exact hfv.append hlv2
          | none =>
            rw [if_neg (show ¬ (none : Option Tree).isSome = true by decide)]
            have hflI : fl ≠ I := hI2 _ hfl
            have hpo : putOne tab b l = [l] := by rw [putOne, if_neg (by rw [hb1]; decide), hb2]
            k_steps
            refine Hold.mk ?_
            rename Fr _ _ _ _ => F11
            refine my_append F11 N2 (.tail _ hfl) (by omega) ?_
            intro h12 F12 N12
            k_steps
            refine LStep.next (by assumption) (by assumption) (.tail _ (mem_offI.mpr ⟨.head _, (hI2 _ hfl).symm⟩)) ⟨rfl, rfl, fl, fv ++ [v], _, rfl, mem_offI.mpr ⟨.head _, hflI⟩, ?_, fun p hp => mem_offI.mpr ⟨.tail _ (mem_offI.mpr ⟨.tail _ (hsub p hp), hne p hp⟩), hI2 p (hsub p hp)⟩, hne⟩
            rw [htk, hpo]
            exact hfv.append ⟨_, _, rfl, hl2, rfl⟩
  case done =>
    rintro m1 nx h tk ⟨hm1, hm2, fl, fv, nf, hm3, hfl, hfv, hsub, hne⟩ F2 N2
    have F3 := frSet F2 [(Str.ofString "found", _)] (fa1 hm3)
    clear F2 F1 N1 N
    show wpAny _ _ _ _ _ _
    try k_fold
    k_steps
    rw [hlv.length, List.take_length] at hfv
    exact ret _ _ _ _ (by assumption) (by assumption) ⟨_, _, _, rfl, hfl, hfv, hsub, hne⟩
/-! the plain law -/
def isCall : Tree → Bool
  | .call _ => true
  | _ => false
def kindS : Tree → Str
  | .sym _ => Str.ofString "symbol"
  | .vec _ => Str.ofString "integer"
  | .call _ => Str.ofString "language"
theorem put_append (tab : Tab) (b : Bool) (l r : List Leaf) : put tab b (l ++ r) = put tab b l ++ put tab b r := by simp only [put, List.flatMap_append]
theorem put_one (tab : Tab) (b : Bool) (l : Leaf) : put tab b [l] = putOne tab b l := by simp [put]
theorem leavesL_one (t : Tree) : leavesL [t] = t.leaves := by simp [leavesL]
theorem putOne_sym {tab : Tab} {b : Bool} {x : Str} (hx : ¬ x = dotsS) : putOne tab b (.s x) = ((tab.tr x).getD (.sym x)).leaves := by
  have h1 : ¬ putB1 tab b (.s x) = true := by simp [putB1, leafDots, hx]
  rw [putOne, if_neg h1]
  simp only [leafTr, if_neg hx]
  cases tab.tr x <;> simp [Tree.leaves]
theorem putOne_vec {tab : Tab} {b : Bool} {k : Int} : putOne tab b (.i k) = [.i k] := by
  have h1 : ¬ putB1 tab b (.i k) = true := by simp [putB1, leafDots]
  rw [putOne, if_neg h1]
  rfl
mutual
theorem spl_leaves (tab : Tab) : ∀ t : Tree, leavesL (spl tab t) = put tab true t.leaves
  | .sym x => by
    simp only [Tree.leaves, put_one]
    by_cases hx : x = dotsS
    · subst hx
      cases hd : tab.dots with
      | none =>
        have h1 : ¬ putB1 tab true (.s dotsS) = true := by simp [putB1, hd]
        rw [putOne, if_neg h1]
        simp [spl, isDots, hd, subst, leafTr, leavesL_one, Tree.leaves]
      | some row =>
        have h1 : putB1 tab true (.s dotsS) = true := by simp [putB1, leafDots, hd]
        rw [putOne, if_pos h1]
        simp [spl, isDots, hd]
    · have h2 : spl tab (.sym x) = [subst tab (.sym x)] := spl_no (by simp [hasDots, isDots, hx])
      rw [h2, leavesL_one, putOne_sym hx, subst, if_neg hx]
  | .vec k => by
    have h2 : spl tab (.vec k) = [subst tab (.vec k)] := spl_no rfl
    rw [h2, leavesL_one]
    simp only [Tree.leaves, put_one, putOne_vec, subst]
  | .call us => by
    have h2 : spl tab (.call us) = [subst tab (.call us)] := spl_no rfl
    rw [h2, leavesL_one]
    simp only [Tree.leaves, subst]
    exact substL_leaves tab us
theorem substL_leaves (tab : Tab) : ∀ ts : List Tree, leavesL (substL tab ts) = put tab true (leavesL ts)
  | [] => by simp [substL, leavesL, put]
  | t :: ts => by
    rw [substL_cons, leavesL_append, leavesL, put_append, spl_leaves tab t, substL_leaves tab ts]
end
theorem subst_leaves (tab : Tab) (t : Tree) : (subst tab t).leaves = put tab (isCall t) t.leaves := by
  cases t with
  | sym x =>
    simp only [Tree.leaves, put_one, isCall]
    by_cases hx : x = dotsS
    · subst hx
      have h1 : ¬ putB1 tab false (.s dotsS) = true := by simp [putB1]
      rw [putOne, if_neg h1]
      simp [subst, leafTr, Tree.leaves]
    · rw [putOne_sym hx, subst, if_neg hx]
  | vec k => simp only [Tree.leaves, put_one, putOne_vec, subst]
  | call us => simp only [Tree.leaves, subst, isCall]; exact substL_leaves tab us
def tab0 : Tab := ⟨fun _ => none, none⟩
mutual
theorem subst_none : ∀ t : Tree, subst tab0 t = t
  | .sym x => by rw [subst]; split <;> rfl
  | .vec k => by rw [subst]
  | .call us => by rw [subst, substL_none us]
theorem substL_none : ∀ ts : List Tree, substL tab0 ts = ts
  | [] => by rw [substL]
  | t :: ts => by
    rw [substL_cons, substL_none ts, spl_no (by simp [hasDots, tab0]), subst_none t]
    rfl
end
theorem Ok.mono {W W' : Nat} (hW : W ≤ W') : ∀ {D D' : Nat} {t : Tree}, Ok W D t → D ≤ D' → Ok W' D' t
  | _, D', .sym x, _, _ => by cases D' <;> exact trivial
  | _, D', .vec k, _, _ => by cases D' <;> exact trivial
  | 0, _, .call ts, h, _ => h.elim
  | D + 1, 0, .call ts, _, hd => by omega
  | D + 1, D' + 1, .call ts, h, hd => ⟨Nat.le_trans h.1 hW, fun t ht => Ok.mono hW (h.2 t ht) (by omega)⟩
/-- the bounds of a table -/
structure TabB (tab : Tab) : Prop where
  tr : ∀ x t, tab.tr x = some t → Ok 3 2 t ∧ Menu t
  row : ∀ row, tab.dots = some row → row.length ≤ 2 ∧ ∀ t ∈ row, Ok 3 2 t ∧ Menu t
theorem TabB.ok {tab : Tab} (h : TabB tab) : TabOk tab where
  tr := fun x t ht => (h.tr x t ht).1.mono (by decide) (by decide)
  row := fun row hr => ⟨(h.row row hr).1, fun t ht => ((h.row row hr).2 t ht).1.mono (by decide) (by decide)⟩
theorem Ok.subst {tab : Tab} (h : TabB tab) : ∀ {D : Nat} {t : Tree}, Ok 3 D t → Ok 6 (D + 2) (subst tab t)
  | D, .sym x, _ => by
    rw [Mine.subst]
    split
    · exact trivial
    · cases ht : tab.tr x with
      | none => exact trivial
      | some t => exact (h.tr x t ht).1.mono (by decide) (by omega)
  | D, .vec k, _ => by rw [Mine.subst]; exact trivial
  | 0, .call ts, k => k.elim
  | D + 1, .call ts, k => by
    rw [Mine.subst]
    have k1 := k.1
    have k2 := substL_length (tab := tab) (fun row hr => (h.row row hr).1) ts
    refine ⟨by omega, ?_⟩
    have all : ∀ us : List Tree, (∀ u ∈ us, Ok 3 D u) → ∀ t ∈ substL tab us, Ok 6 (D + 2) t := by
      intro us
      induction us with
      | nil => intro _ t ht; simp [substL] at ht
      | cons u us ih =>
        intro hu t ht
        rw [substL_cons] at ht
        rcases List.mem_append.mp ht with ht | ht
        · cases hh : hasDots tab u with
          | true =>
            obtain ⟨row, hr, hs⟩ := spl_yes hh
            rw [hs] at ht
            exact ((h.row row hr).2 t ht).1.mono (by decide) (by omega)
          | false =>
            rw [spl_no hh] at ht
            rw [List.mem_singleton.mp ht]
            exact Ok.subst h (hu u (.head _))
        · exact ih (fun v hv => hu v (.tail _ hv)) t ht
    exact all ts k.2
def MenuL (ls : List Leaf) : Prop := ∀ x, Leaf.s x ∈ ls → x = Str.ofString "f" ∨ x = Str.ofString "x" ∨ x = Str.ofString "y" ∨ x = Str.ofString "..."
theorem MenuL.put {tab : Tab} (h : TabB tab) {b : Bool} {ls : List Leaf} (k : MenuL ls) : MenuL (put tab b ls) := by
  intro x hx
  rw [Mine.put, List.mem_flatMap] at hx
  obtain ⟨l, hl, hx⟩ := hx
  unfold putOne at hx
  split at hx
  · cases hd : tab.dots with
    | none => rw [hd] at hx; simp [leavesL] at hx
    | some row =>
      rw [hd, Option.getD_some] at hx
      obtain ⟨t, ht, hxt⟩ := of_mem_leavesL hx
      exact ((h.row row hd).2 t ht).2 x hxt
  · split at hx
    · rename_i t ht
      cases l with
      | s y =>
        simp only [leafTr] at ht
        split at ht
        · cases ht
        · exact (h.tr y t ht).2 x hx
      | i k => cases ht
    · rw [List.mem_singleton] at hx
      exact k x (hx ▸ hl)
theorem MenuL.texts {ls : List Leaf} (k : MenuL ls) : MenuL (texts ls) := fun x hx => k x ((List.mem_filter.mp hx).1)
theorem MenuL.named {t : Tree} (k : MenuL t.leaves) : Named t := by
  intro x hx
  rcases k x hx with rfl | rfl | rfl | rfl <;> decide
/-! the table as a dict -/
theorem valueAt_stored {kvs : List (Str × Value)} {k x : Str} {v : Value} : valueAt (stored kvs k v) x = if x = k then some v else valueAt kvs x := by
  have hmap : ∀ l : List (Str × Value), valueAt (l.map fun kv => if kv.1 = k then (kv.1, v) else kv) x = if x = k ∧ (l.any fun kv => kv.1 = k) = true then some v else valueAt l x := by
    intro l
    induction l with
    | nil => simp [valueAt]
    | cons p l ih =>
      obtain ⟨a, b⟩ := p
      simp only [List.map_cons, valueAt, List.find?_cons, List.any_cons] at ih ⊢
      by_cases h1 : a = k
      · subst h1
        by_cases h2 : a = x
        · subst h2; simp
        · have h3 : ¬ x = a := fun e => h2 e.symm
          simp only [if_true, decide_eq_false h2, h3, false_and, if_false] at ih ⊢
          exact ih
      · simp only [if_neg h1, decide_eq_false h1, Bool.false_or]
        by_cases h2 : a = x
        · subst h2
          simp [h1]
        · simp only [decide_eq_false h2]
          exact ih
  have happ : ∀ l : List (Str × Value), (l.any fun kv => kv.1 = k) = false → valueAt (l ++ [(k, v)]) x = if x = k then some v else valueAt l x := by
    intro l
    induction l with
    | nil =>
      intro _
      by_cases h2 : k = x
      · subst h2; simp [valueAt]
      · have h3 : ¬ x = k := fun e => h2 e.symm
        simp [valueAt, h2, h3]
    | cons p l ih =>
      obtain ⟨a, b⟩ := p
      intro hl
      simp only [List.any_cons, Bool.or_eq_false_iff, decide_eq_false_iff_not] at hl
      have := ih hl.2
      simp only [valueAt, List.cons_append, List.find?_cons] at this ⊢
      by_cases h2 : a = x
      · subst h2; simp [hl.1]
      · simp only [decide_eq_false h2]
        exact this
  unfold stored
  cases h : kvs.any fun kv => kv.1 = k with
  | true =>
    rw [if_pos rfl, hmap, h]
    simp
  | false =>
    rw [if_neg (by decide)]
    exact happ kvs h

/-! helpers of the law -/
theorem Tel.sub {w : World} {mean : ExcName → Option Value} {mg mb : Str → Option Value} {f : Addr} {dn : Nat} {vs : List Value} {news all : List (Addr × Obj)} {Post : List (Addr × Obj) → Value → Prop} (C : Tel w mean mg mb f dn vs news Post) (hs : ∀ p ∈ news, p ∈ all) : Tel w mean mg mb f dn vs all Post :=
  fun _ _ _ _ _ _ _ _ _ _ _ _ _ _ _ _ _ B F X N T hk hd hu ret => C _ _ _ _ _ _ _ _ _ _ _ _ _ _ _ _ _ B F X (newsSub N hs) T hk hd hu ret
section
variable {w : World} {dp un : Nat} {gd : Option (List Code)} {cn : Str} {cs : Scope} {a : Addr} {ccd : Value} {cl : List (Str × Addr)} {outer : List Env} {h₀ : Heap} {L : Addr} {m : Str → Option Value} {s : Shared}
    {Q E : Value → Shared → Prop} {news rest : List (Addr × Obj)} {t : Tree} {v : Value}
theorem attr_kind (F : Fr h₀ L s.heap m) (X : (Mine0.hd.heap_39 w.params).In h₀) (N : News h₀ L s.heap news)
    (R : TreeIn w.params rest t v) (hs : ∀ p ∈ rest, p ∈ news) (ret : ∀ t1 tk, Q (.str (kindS t) t1) { s with toks := tk }) :
    wpAny (model PySem.Challenge.rw_ov0039_01.row.prog w) (ktrTop dp un gd cn cs L a ccd cl outer) (getAttr v (Str.ofString "kind") true) Q E s := by
  revert X; k_fill; intro X
  cases t with
  | sym x =>
    simp only [TreeIn] at R
    obtain ⟨a1, d1, t1, t2, t3, t4, t5, rfl, h1, h2⟩ := R
    replace h1 := hs _ h1
    replace h2 := hs _ h2
    k_steps
    exact ret _ _
  | vec k =>
    simp only [TreeIn] at R
    obtain ⟨a1, d1, l1, b, t1, t2, t3, t4, t5, t6, t7, n, rfl, h1, h2, h3⟩ := R
    replace h1 := hs _ h1
    replace h2 := hs _ h2
    k_steps
    exact ret _ _
  | call ts =>
    simp only [TreeIn] at R
    obtain ⟨a1, d1, l1, g, vs, gs, n, n', t1, t2, t3, t4, t5, t6, rfl, h1, h2, h3, h4, h5, h6, h7⟩ := R
    replace h1 := hs _ h1
    replace h2 := hs _ h2
    k_steps
    exact ret _ _
theorem attr_name {x : Str} (F : Fr h₀ L s.heap m) (X : (Mine0.hd.heap_39 w.params).In h₀) (N : News h₀ L s.heap news)
    (R : TreeIn w.params rest (.sym x) v) (hs : ∀ p ∈ rest, p ∈ news) (ret : ∀ t1 tk, Q (.str x t1) { s with toks := tk }) :
    wpAny (model PySem.Challenge.rw_ov0039_01.row.prog w) (ktrTop dp un gd cn cs L a ccd cl outer) (getAttr v (Str.ofString "name") true) Q E s := by
  revert X; k_fill; intro X
  simp only [TreeIn] at R
  obtain ⟨a1, d1, t1, t2, t3, t4, t5, rfl, h1, h2⟩ := R
  replace h1 := hs _ h1
  replace h2 := hs _ h2
  k_steps
  exact ret _ _
theorem attr_items {ts : List Tree} (F : Fr h₀ L s.heap m) (X : (Mine0.hd.heap_39 w.params).In h₀) (N : News h₀ L s.heap news)
    (R : TreeIn w.params rest (.call ts) v) (hs : ∀ p ∈ rest, p ∈ news) (ret : ∀ l vs n tk, (l, listOf (List.toArray vs) n) ∈ news → TreesIn w.params rest ts vs → Q (.ref l) { s with toks := tk }) :
    wpAny (model PySem.Challenge.rw_ov0039_01.row.prog w) (ktrTop dp un gd cn cs L a ccd cl outer) (getAttr v (Str.ofString "items") true) Q E s := by
  revert X; k_fill; intro X
  simp only [TreeIn] at R
  obtain ⟨a1, d1, l1, g, vs, gs, n, n', t1, t2, t3, t4, t5, t6, rfl, h1, h2, h3, h4, h5, h6, h7⟩ := R
  replace h1 := hs _ h1
  replace h2 := hs _ h2
  replace h3 := hs _ h3
  k_steps
  exact ret _ _ _ _ h3 h7
theorem attr_tags {ts : List Tree} (F : Fr h₀ L s.heap m) (X : (Mine0.hd.heap_39 w.params).In h₀) (N : News h₀ L s.heap news)
    (R : TreeIn w.params rest (.call ts) v) (hs : ∀ p ∈ rest, p ∈ news) (ret : ∀ l vs n tk, (l, listOf (List.toArray vs) n) ∈ news → vs.length = ts.length → Q (.ref l) { s with toks := tk }) :
    wpAny (model PySem.Challenge.rw_ov0039_01.row.prog w) (ktrTop dp un gd cn cs L a ccd cl outer) (getAttr v (Str.ofString "tags") true) Q E s := by
  revert X; k_fill; intro X
  simp only [TreeIn] at R
  obtain ⟨a1, d1, l1, g, vs, gs, n, n', t1, t2, t3, t4, t5, t6, rfl, h1, h2, h3, h4, h5, h6, h7⟩ := R
  replace h1 := hs _ h1
  replace h2 := hs _ h2
  replace h4 := hs _ h4
  have h8 : gs.length = ts.length := by rw [h5, h7.length]
  k_steps
  exact ret _ _ _ _ h4 h8
end
theorem TreeIn.ref {P : Params} {rest : List (Addr × Obj)} {t : Tree} {v : Value} (R : TreeIn P rest t v) : ∃ T, v = .ref T := by
  cases t <;> simp only [TreeIn] at R
  · obtain ⟨a1, d1, t1, t2, t3, t4, t5, rfl, h1, h2⟩ := R; exact ⟨_, rfl⟩
  · obtain ⟨a1, d1, l1, b, t1, t2, t3, t4, t5, t6, t7, n, rfl, h1, h2, h3⟩ := R; exact ⟨_, rfl⟩
  · obtain ⟨a1, d1, l1, g, vs, gs, n, n', t1, t2, t3, t4, t5, t6, rfl, h1, h2, h3, h4, h5, h6, h7⟩ := R; exact ⟨_, rfl⟩

/-! two lists of leaves compared -/
def leafDat : Leaf → Dat
  | .s x => .str x
  | .i k => .int k
theorem LeafVs.dat : ∀ {vs : List Value} {ls : List Leaf}, LeafVs vs ls → DatAll [] vs (ls.map leafDat)
  | [], ls, h => by simp only [LeafVs] at h; subst h; exact .nil
  | v :: r, ls, h => by
    simp only [LeafVs] at h
    obtain ⟨l, m, rfl, h1, h2⟩ := h
    refine .cons ?_ h2.dat
    cases l with
    | s x => obtain ⟨t, rfl⟩ := h1; exact .str x t
    | i k => obtain ⟨t, rfl⟩ := h1; exact .int k t
theorem MenuL.dat {ls : List Leaf} (k : MenuL ls) : ∀ d ∈ ls.map leafDat, kqdOk 8 d = true := by
  intro d hd
  obtain ⟨l, hl, rfl⟩ := List.mem_map.mp hd
  cases l with
  | s x =>
    rcases k x hl with rfl | rfl | rfl | rfl <;> decide +kernel
  | i k => rfl
theorem my_ne {prog : Program} {w : World} {A : Around} {E : Value → Shared → Prop} {s : Shared} {h₀ : Heap} {L a b : Addr} {news : List (Addr × Obj)} {xs ys : List Value} {ka kb : Nat} {ls : List Leaf} {Q : Value → Shared → Prop}
    (N : News h₀ L s.heap news) (ma : (a, listOf xs.toArray ka) ∈ news) (mb : (b, listOf ys.toArray kb) ∈ news) (hx : LeafVs xs ls) (hy : LeafVs ys ls) (k : MenuL ls) (hu : A.units + 64 < cLine) (h : Q (.bool false) s) :
    wpAny (model prog w) A (compareOp .NotEq (.ref a) (.ref b)) Q E s := by
  refine kqd_ne N ma rfl rfl hx.dat (fun _ h => nomatch h) mb rfl rfl hy.dat (fun _ h => nomatch h) k.dat k.dat hu ?_
  simpa using h

theorem offCons2 {h₀ h : Heap} {L D : Addr} {o : Obj} {news : List (Addr × Obj)} (N : News h₀ L h news) (hm : (D, o) ∈ news) : News h₀ L h ((D, o) :: offI D news) ∧ ∀ p ∈ offI D news, p.1 ≠ D := ⟨offCons N hm, fun _ hp => (mem_offI.mp hp).2⟩
/-! joining two paths -/
def JoinP (s : Shared) (h₀ : Heap) (L : Addr) (J : (Str → Option Value) → List (Addr × Obj) → Prop) (f : Flow) (s' : Shared) : Prop :=
  f = .next ∧ ∃ h' tk m' nx, s' = { s with heap := h', toks := tk } ∧ Fr h₀ L h' m' ∧ News h₀ L h' nx ∧ J m' nx
theorem JoinP.mk {s : Shared} {h₀ h' : Heap} {L : Addr} {J : (Str → Option Value) → List (Addr × Obj) → Prop} {tk : Nat} {m' : Str → Option Value} {nx : List (Addr × Obj)} (F : Fr h₀ L h' m') (N : News h₀ L h' nx) (j : J m' nx) : JoinP s h₀ L J .next { s with heap := h', toks := tk } :=
  ⟨rfl, h', tk, m', nx, rfl, F, N, j⟩
theorem if_join {M : Model} {A : Around} {E : Value → Shared → Prop} {s : Shared} {env : Env} {st : Stmt} {Q : Flow → Shared → Prop} {h₀ h : Heap} {L : Addr} {m : Str → Option Value} {nx₀ : List (Addr × Obj)} (_ : Fr h₀ L h m) (J : (Str → Option Value) → List (Addr × Obj) → Prop) (_ : J m nx₀)
    (h1 : wpAny M A (exec st env) (JoinP s h₀ L J) E s)
    (h2 : ∀ h' tk m' nx, Fr h₀ L h' m' → News h₀ L h' nx → J m' nx → Q .next { s with heap := h', toks := tk }) : wpAny M A (exec st env) Q E s := by
  refine wpAny_mono h1 (fun f s' h => ?_) fun _ _ h => h
  obtain ⟨rfl, h', tk, m', nx, rfl, F, N, j⟩ := h
  exact h2 _ _ _ _ F N j

/-! what the law holds while it fills the table -/
def StOk (st : Addr) (nx : List (Addr × Obj)) : Prop := ∃ us k n, (st, listOf (List.toArray us) n) ∈ nx ∧ IntsAre us k ∧ us.length ≤ 1000
/-- the tree, the table and the row so far lie in tl -/
structure TabS (P : Params) (tl : List (Addr × Obj)) (te : Tree) (ve : Value) (kvs : List (Str × Value)) (tab : Tab) (row : List Tree) (ys : List Value) : Prop where
  tree : TreeIn P tl te ve
  kv : KvsIn P tl kvs tab
  bound : TabB tab
  rows : RowIn P tl row ys
  rowB : ∀ t ∈ row, Ok 3 2 t ∧ Menu t
theorem TabS.mono {P : Params} {tl tl' : List (Addr × Obj)} {te : Tree} {ve : Value} {kvs : List (Str × Value)} {tab : Tab} {row : List Tree} {ys : List Value} (h : TabS P tl te ve kvs tab row ys) (hs : ∀ p ∈ tl, p ∈ tl') : TabS P tl' te ve kvs tab row ys where
  tree := h.tree.mono hs
  kv := h.kv.sh (.sub hs)
  bound := h.bound
  rows := h.rows.sh (.sub hs)
  rowB := h.rowB
theorem TabS.set {P : Params} {tl : List (Addr × Obj)} {te : Tree} {ve : Value} {kvs : List (Str × Value)} {tab : Tab} {row : List Tree} {ys : List Value} (h : TabS P tl te ve kvs tab row ys) {x : Str} (hx : x ≠ dotsS) {t : Tree} {v : Value} (ht : TreeIn P tl t v) (hb : Ok 3 2 t ∧ Menu t) :
    TabS P tl te ve (stored kvs x v) ⟨fun y => if y = x then some t else tab.tr y, tab.dots⟩ row ys where
  tree := h.tree
  kv := {
    tr := fun y hy t' ht' => by
      dsimp only at ht'
      rw [valueAt_stored]
      by_cases e : y = x
      · rw [if_pos e] at ht' ⊢
        cases ht'
        exact ⟨v, rfl, ht⟩
      · rw [if_neg e] at ht' ⊢
        exact h.kv.tr y hy t' ht'
    tr0 := fun y hy ht' => by
      dsimp only at ht'
      rw [valueAt_stored]
      by_cases e : y = x
      · rw [if_pos e] at ht'; cases ht'
      · rw [if_neg e] at ht' ⊢
        exact h.kv.tr0 y hy ht'
    dots := fun r hr => by
      rw [valueAt_stored, if_neg (Ne.symm hx)]
      exact h.kv.dots r hr
    dots0 := fun hr => by
      rw [valueAt_stored, if_neg (Ne.symm hx)]
      exact h.kv.dots0 hr }
  bound := {
    tr := fun y t' ht' => by
      dsimp only at ht'
      by_cases e : y = x
      · rw [if_pos e] at ht'; cases ht'; exact hb
      · rw [if_neg e] at ht'; exact h.bound.tr y t' ht'
    row := h.bound.row }
  rows := h.rows
  rowB := h.rowB
theorem TabS.snoc {P : Params} {tl : List (Addr × Obj)} {te : Tree} {ve : Value} {kvs : List (Str × Value)} {tab : Tab} {row : List Tree} {ys : List Value} (h : TabS P tl te ve kvs tab row ys) {t : Tree} {a : Addr} {tag v : Value} {n : Nat} (ha : (a, ({ cls := .type "tuple", data := .seq #[tag, v] n } : Obj)) ∈ tl) (hg : TagV tag) (ht : TreeIn P tl t v) (hb : Ok 3 2 t ∧ Menu t) :
    TabS P tl te ve kvs tab (row ++ [t]) (ys ++ [.ref a]) where
  tree := h.tree
  kv := h.kv
  bound := h.bound
  rows := by
    have app : ∀ {r : List Tree} {zs : List Value}, RowIn P tl r zs → RowIn P tl (r ++ [t]) (zs ++ [.ref a]) := by
      intro r
      induction r with
      | nil => intro zs hz; rw [show zs = [] from hz]; exact ⟨a, tag, v, [], n, rfl, ha, hg, ht, rfl⟩
      | cons u r ih =>
        intro zs hz
        obtain ⟨a', tag', v', r', n', e, h1, h2, h3, h4⟩ := hz
        rw [e]
        exact ⟨a', tag', v', _, n', rfl, h1, h2, h3, ih h4⟩
    exact app h.rows
  rowB := fun u hu => by
    rcases List.mem_append.mp hu with hu | hu
    · exact h.rowB u hu
    · rw [List.mem_singleton.mp hu]; exact hb
theorem TabS.dots {P : Params} {tl : List (Addr × Obj)} {te : Tree} {ve : Value} {kvs : List (Str × Value)} {tab : Tab} {row : List Tree} {ys : List Value} (h : TabS P tl te ve kvs tab row ys) {D : Addr} {n : Nat} (hD : (D, listOf (List.toArray ys) n) ∈ tl) (hr : row.length ≤ 2) :
    TabS P tl te ve (stored kvs dotsS (.ref D)) ⟨tab.tr, some row⟩ [] [] where
  tree := h.tree
  kv := {
    tr := fun y hy t' ht' => by
      rw [valueAt_stored, if_neg hy]
      exact h.kv.tr y hy t' ht'
    tr0 := fun y hy ht' => by
      rw [valueAt_stored, if_neg hy]
      exact h.kv.tr0 y hy ht'
    dots := fun r hr => by
      cases hr
      rw [valueAt_stored, if_pos rfl]
      exact ⟨D, ys, n, rfl, hD, h.rows⟩
    dots0 := fun hr => nomatch hr }
  bound := {
    tr := h.bound.tr
    row := fun r hr' => by cases hr'; exact ⟨hr, h.rowB⟩ }
  rows := rfl
  rowB := fun _ h => nomatch h
theorem TabS.start {P : Params} {tl : List (Addr × Obj)} {te : Tree} {ve : Value} (h : TreeIn P tl te ve) : TabS P tl te ve [] tab0 [] [] where
  tree := h
  kv := ⟨fun _ _ _ h => (nomatch h), fun _ _ _ => rfl, fun _ h => (nomatch h), fun _ => rfl⟩
  bound := ⟨fun _ _ h => (nomatch h), fun _ h => (nomatch h)⟩
  rows := rfl
  rowB := fun _ h => nomatch h
def TreeQ (P : Params) (R : Nat) (st : Addr) (nx nx' : List (Addr × Obj)) (r : Value) : Prop :=
  ∃ t tl, TreeIn P tl t r ∧ Ok 3 R t ∧ Menu t ∧ StOk st nx' ∧ (∀ p ∈ nx, p.1 ≠ st → p ∈ nx') ∧ (∀ p ∈ tl, p ∈ nx') ∧ ∀ p ∈ tl, p.1 ≠ st ∧ ∀ q ∈ nx, q.1 ≠ st → q.1 ≠ p.1
theorem treeC {w : World} {mean : ExcName → Option Value} {mg mb : Str → Option Value} {st : Addr} {nx : List (Addr × Obj)} {deep : Int} {tkd : Tok} (R : Nat) (h : StOk st nx) (hd : deep + R = 3) : Tel w mean mg mb 149 (R + 6) [.ref st, .int deep tkd] nx (TreeQ w.params R st nx) := by
  obtain ⟨us, k, n, hst, hik, hus⟩ := h
  intro dp un gd cn cs a ccd cl outer A₀ base h₀ L m s Q E B F X N T hk hd' hu ret
  refine tel_use (tel_tree R st us k n deep tkd (offI st nx) hik hus hd (fun p hp => (mem_offI.mp hp).2)) B F X N T hk hd' hu (fun p hp => ?_) (fun r news' h' tk' F' N' P' => ret r news' h' tk' F' N' ?_)
  · rcases List.mem_cons.mp hp with rfl | hp
    · exact hst
    · exact (mem_offI.mp hp).1
  · obtain ⟨t, tl, vs, l, n', h1, h2, h3, h4, h5, h6, h7, h8, h9⟩ := P'
    exact ⟨t, tl, h1, h2, h3, ⟨vs, l, n', h6, h4, Nat.le_trans h5 hus⟩, fun p hp hne => h7 p (mem_offI.mpr ⟨hp, hne⟩), h8, fun p hp => ⟨(h9 p hp).1, fun q hq hne => (h9 p hp).2 q (mem_offI.mpr ⟨hq, hne⟩)⟩⟩
def PullQ (mo : Int) (st : Addr) (nx nx' : List (Addr × Obj)) (r : Value) : Prop :=
  ∃ k tk, r = .int k tk ∧ 0 ≤ k ∧ k < mo ∧ StOk st nx' ∧ ∀ p ∈ nx, p.1 ≠ st → p ∈ nx'
theorem pullC {w : World} {mean : ExcName → Option Value} {mg mb : Str → Option Value} {st : Addr} {nx : List (Addr × Obj)} {mo : Int} {tkd : Tok} (h : StOk st nx) (hm : 0 < mo) : Tel w mean mg mb 142 2 [.ref st, .int mo tkd] nx (PullQ mo st nx) := by
  obtain ⟨us, k, n, hst, hik, hus⟩ := h
  intro dp un gd cn cs a ccd cl outer A₀ base h₀ L m s Q E B F X N T hk hd' hu ret
  refine tel_use (tel_pull st us k n mo tkd (offI st nx) hik hus hm (fun p hp => (mem_offI.mp hp).2)) B F X N T hk hd' hu (fun p hp => ?_) (fun r news' h' tk' F' N' P' => ret r news' h' tk' F' N' ?_)
  · rcases List.mem_cons.mp hp with rfl | hp
    · exact hst
    · exact (mem_offI.mp hp).1
  · obtain ⟨k', tk, vs, l, n', h1, h2, h3, h4, h5, h6, h7⟩ := P'
    exact ⟨k', tk, h1, h2, h3, ⟨vs, l, n', h6, h4, Nat.le_trans h5 hus⟩, fun p hp hne => h7 p (mem_offI.mpr ⟨hp, hne⟩)⟩
theorem StOk.ofN {st : Addr} {us : List Value} {k : List Int} {n : Nat} {nx : List (Addr × Obj)} {h₀ h : Heap} {L : Addr} (_ : News h₀ L h nx) (hst : (st, listOf (List.toArray us) n) ∈ nx) (hik : IntsAre us k) (hus : us.length ≤ 1000) : StOk st nx := ⟨us, k, n, hst, hik, hus⟩
theorem StOk.mono {st : Addr} {nx ny : List (Addr × Obj)} (h : StOk st nx) (hs : ∀ p ∈ nx, p ∈ ny) : StOk st ny := let ⟨us, k, n, a, b, c⟩ := h; ⟨us, k, n, hs _ a, b, c⟩
theorem StOk.off {st I : Addr} {nx : List (Addr × Obj)} (h : StOk st nx) (hs : st ≠ I) : StOk st (offI I nx) := let ⟨us, k, n, a, b, c⟩ := h; ⟨us, k, n, mem_offI.mpr ⟨a, hs⟩, b, c⟩
/-- the law's state while the table is filled -/
def LawJ (w : World) (c : Addr) (o9 : Obj) (st T : Addr) (te : Tree) (ve : Value) (len : Nat) (row : List Tree) (ys : List Value) (nx : List (Addr × Obj)) : Prop :=
  ∃ tl o kvs tab, (c, o9) ∈ nx ∧ StOk st nx ∧ (T, o) ∈ nx ∧ o.IsDictOf (PySem.strKind PySem.Challenge.rw_ov0039_01.row.prog w) kvs ∧ kvs.length ≤ len ∧ (∀ p ∈ tl, p ∈ nx) ∧ (∀ p ∈ tl, p.1 ≠ st ∧ p.1 ≠ T) ∧ TabS w.params tl te ve kvs tab row ys
theorem LawJ.mv {w : World} {c : Addr} {o9 : Obj} {st T : Addr} {te : Tree} {ve : Value} {len : Nat} {row : List Tree} {ys : List Value} {nx ny : List (Addr × Obj)} (h : LawJ w c o9 st T te ve len row ys nx) (hc : c ≠ st) (hT : T ≠ st) (hst : StOk st ny) (keep : ∀ p ∈ nx, p.1 ≠ st → p ∈ ny) : LawJ w c o9 st T te ve len row ys ny := by
  obtain ⟨tl, o, kvs, tab, h1, h2, h3, h4, h5, h6, h7, h8⟩ := h
  exact ⟨tl, o, kvs, tab, keep _ h1 hc, hst, keep _ h3 hT, h4, h5, fun p hp => keep p (h6 p hp) (h7 p hp).1, h7, h8⟩
theorem LawJ.stOk {w : World} {c : Addr} {o9 : Obj} {st T : Addr} {te : Tree} {ve : Value} {len : Nat} {row : List Tree} {ys : List Value} {nx : List (Addr × Obj)} (h : LawJ w c o9 st T te ve len row ys nx) : StOk st nx := let ⟨_, _, _, _, _, h2, _⟩ := h; h2
theorem LawJ.cell {w : World} {c : Addr} {o9 : Obj} {st T : Addr} {te : Tree} {ve : Value} {len : Nat} {row : List Tree} {ys : List Value} {nx : List (Addr × Obj)} (h : LawJ w c o9 st T te ve len row ys nx) : (c, o9) ∈ nx := let ⟨_, _, _, _, h1, _⟩ := h; h1
/-- a name's tree is laid into the table -/
theorem LawJ.set {w : World} {c : Addr} {o9 o' : Obj} {st T : Addr} {te t : Tree} {ve v : Value} {len : Nat} {nx : List (Addr × Obj)} {tl tl2 : List (Addr × Obj)} {kvs : List (Str × Value)} {tab : Tab} {x : Str} (hcT : c ≠ T) (hT : st ≠ T) (hx : x ≠ dotsS)
    (h1 : (c, o9) ∈ nx) (h2 : StOk st nx) (h5 : kvs.length ≤ len) (h6 : ∀ p ∈ tl, p ∈ nx) (h7 : ∀ p ∈ tl, p.1 ≠ st ∧ p.1 ≠ T) (h8 : TabS w.params tl te ve kvs tab [] [])
    (h9 : ∀ p ∈ tl2, p ∈ nx) (h10 : ∀ p ∈ tl2, p.1 ≠ st ∧ p.1 ≠ T) (ht : TreeIn w.params tl2 t v) (hb : Ok 3 2 t ∧ Menu t) (hd : o'.IsDictOf (PySem.strKind PySem.Challenge.rw_ov0039_01.row.prog w) (stored kvs x v)) :
    LawJ w c o9 st T te ve (len + 1) [] [] ((T, o') :: offI T nx) := by
  have hm := h8.mono (tl' := tl ++ tl2) fun p hp => List.mem_append_left _ hp
  refine ⟨tl ++ tl2, o', stored kvs x v, _, .tail _ (mem_offI.mpr ⟨h1, hcT⟩), (h2.off hT).mono fun p hp => .tail _ hp, .head _, hd, Nat.le_trans (stored_length_le _ _ _) (Nat.succ_le_succ h5), ?_, ?_, hm.set hx (ht.mono fun p hp => List.mem_append_right _ hp) hb⟩
  · intro p hp
    rcases List.mem_append.mp hp with hp | hp
    · exact .tail _ (mem_offI.mpr ⟨h6 p hp, (h7 p hp).2⟩)
    · exact .tail _ (mem_offI.mpr ⟨h9 p hp, (h10 p hp).2⟩)
  · intro p hp
    rcases List.mem_append.mp hp with hp | hp
    · exact h7 p hp
    · exact h10 p hp
theorem nameOf {a b c : Str} {t1 t2 t3 : Tok} {i : Nat} {v : Value} (h : [Value.str a t1, .str b t2, .str c t3][i]? = some v) : ∃ x t, v = .str x t ∧ (x = a ∨ x = b ∨ x = c) := by
  match i, h with
  | 0, h => cases h; exact ⟨_, _, rfl, .inl rfl⟩
  | 1, h => cases h; exact ⟨_, _, rfl, .inr (.inl rfl)⟩
  | 2, h => cases h; exact ⟨_, _, rfl, .inr (.inr rfl)⟩
  | n + 3, h => simp at h
theorem LawJ.start {w : World} {h₀ h : Heap} {L c : Addr} {o9 o : Obj} {st T : Addr} {te : Tree} {ve : Value} {news tl : List (Addr × Obj)} {e3 : Addr × Obj} (_ : News h₀ L h (e3 :: (T, o) :: news)) (hc : (c, o9) ∈ news) (hst : StOk st news) (hd : o.IsDictOf (PySem.strKind PySem.Challenge.rw_ov0039_01.row.prog w) [])
    (htl : ∀ p ∈ tl, p ∈ news) (hoff : ∀ p ∈ tl, p.1 ≠ st ∧ p.1 ≠ T) (hT : TreeIn w.params tl te ve) : LawJ w c o9 st T te ve 0 [] [] (e3 :: (T, o) :: news) :=
  ⟨tl, o, [], tab0, .tail _ (.tail _ hc), hst.mono fun p hp => .tail _ (.tail _ hp), .tail _ (.head _), hd, Nat.le_refl _, fun p hp => .tail _ (.tail _ (htl p hp)), hoff, .start hT⟩
theorem LawJ.mono {w : World} {c : Addr} {o9 : Obj} {st T : Addr} {te : Tree} {ve : Value} {len : Nat} {row : List Tree} {ys : List Value} {nx ny : List (Addr × Obj)} (h : LawJ w c o9 st T te ve len row ys nx) (hs : ∀ p ∈ nx, p ∈ ny) : LawJ w c o9 st T te ve len row ys ny := by
  obtain ⟨tl, o, kvs, tab, h1, h2, h3, h4, h5, h6, h7, h8⟩ := h
  exact ⟨tl, o, kvs, tab, hs _ h1, h2.mono hs, hs _ h3, h4, h5, fun p hp => hs p (h6 p hp), h7, h8⟩
theorem LawJ.le {w : World} {c : Addr} {o9 : Obj} {st T : Addr} {te : Tree} {ve : Value} {len len' : Nat} {row : List Tree} {ys : List Value} {nx : List (Addr × Obj)} (h : LawJ w c o9 st T te ve len row ys nx) (hs : len ≤ len') : LawJ w c o9 st T te ve len' row ys nx := by
  obtain ⟨tl, o, kvs, tab, h1, h2, h3, h4, h5, h6, h7, h8⟩ := h
  exact ⟨tl, o, kvs, tab, h1, h2, h3, h4, Nat.le_trans h5 hs, h6, h7, h8⟩
theorem StOk.ne {st I : Addr} {nx : List (Addr × Obj)} (h : StOk st nx) (hI : ∀ p ∈ nx, p.1 ≠ I) : st ≠ I := let ⟨_, _, _, q, _⟩ := h; hI _ q
theorem StOk.lt {st d : Addr} {nx : List (Addr × Obj)} (h : StOk st nx) (hI : ∀ p ∈ nx, p.1 < d) : st < d := let ⟨_, _, _, q, _⟩ := h; hI _ q
theorem LawJ.loop {w : World} {c : Addr} {o9 it : Obj} {st T I : Addr} {te : Tree} {ve : Value} {len : Nat} {row : List Tree} {ys : List Value} {nx ny : List (Addr × Obj)} (h : LawJ w c o9 st T te ve len row ys nx) (hI : ∀ p ∈ nx, p.1 ≠ I) (hc : c ≠ st) (hT : T ≠ st) (hst : StOk st ny) (keep : ∀ p ∈ (I, it) :: nx, p.1 ≠ st → p ∈ ny) :
    LawJ w c o9 st T te ve len row ys (Mine.offI I ny) := by
  obtain ⟨tl, o, kvs, tab, h1, h2, h3, h4, h5, h6, h7, h8⟩ := h
  exact ⟨tl, o, kvs, tab, mem_offI.mpr ⟨keep _ (.tail _ h1) hc, hI _ h1⟩, hst.off (h2.ne hI), mem_offI.mpr ⟨keep _ (.tail _ h3) hT, hI _ h3⟩, h4, h5, fun p hp => mem_offI.mpr ⟨keep p (.tail _ (h6 p hp)) (h7 p hp).1, hI p (h6 p hp)⟩, h7, h8⟩
theorem StOk.up {st : Addr} {nx ny : List (Addr × Obj)} {h₀ h : Heap} {L : Addr} (_ : News h₀ L h ny) (k : StOk st nx) (hs : ∀ p ∈ nx, p ∈ ny) : StOk st ny := k.mono hs
theorem comp_restU {prog : Program} {w : World} {A : Around} {s : Shared} {h₀ : Heap} {L : Addr} {m : Str → Option Value} {env : Env} {elt : Expr} {x : Str} {scope : Scope} {cl : List (Str × Addr)} {S : List (Addr × Obj) → Prop} {P : Nat → Value → Prop} {Fin : List Value → List (Addr × Obj) → Prop} {n : Nat} {news : List (Addr × Obj)}
    (J : Nat → List Value → List (Addr × Obj) → Prop) (hj : J 0 [] news)
    (turn : ∀ i ys nw v I oI C oC D m₂ h tk (E' : Value → Shared → Prop), i < n → J i ys nw → P i v → LCg.NsObj oC m₂ → m₂ x = some v → Fr h₀ L h m → News h₀ L h ((I, oI) :: (C, oC) :: (D, LCg.lst ys) :: nw) → (∀ p ∈ nw, p.1 ≠ I ∧ p.1 ≠ C ∧ p.1 ≠ D) → ((@Ne Nat I C) ∧ (@Ne Nat I D) ∧ (@Ne Nat C D)) →
      wpAny (model prog w) A (eval elt (compEnvC scope cl C env)) (LCg.CompEnd h₀ L m { s with heap := h, toks := tk } I oI C oC D (LCg.lst ys) S (fun y nw' => J (i + 1) (ys ++ [y]) nw')) E' { s with heap := h, toks := tk })
    (done : ∀ ys nw, J n ys nw → Fin ys nw) : LCg.CompRest prog w A h₀ L m env elt x scope cl s S P Fin n 0 [] news := by
  have gen : ∀ (k i : Nat) (ys : List Value) (nw : List (Addr × Obj)), i + k = n → J i ys nw → LCg.CompRest prog w A h₀ L m env elt x scope cl s S P Fin k i ys nw := by
    intro k
    induction k with
    | zero =>
      intro i ys nw hi hJ
      rw [Nat.add_zero] at hi
      subst hi
      exact .zero (done _ _ hJ)
    | succ k ih =>
      intro i ys nw hi hJ
      refine .succ fun v I oI C oC D m₂ h tk E' hv hC hx F N off ne => ?_
      refine wpAny_mono (turn i ys nw v I oI C oC D m₂ h tk E' (by omega) hJ hv hC hx F N off.mem ne) (fun y s₂ q => ?_) fun _ _ e => e
      obtain ⟨h', tk', nw', e, F', N', o', hS, hJ'⟩ := q
      exact ⟨h', tk', nw', e, F', N', o', hS, ih _ _ _ (by omega) hJ'⟩
  exact gen n 0 [] news (by omega) hj
theorem off1_mem {D : Addr} : ∀ {l : List (Addr × Obj)}, LCg.Off1 D l → ∀ p ∈ l, p.1 ≠ D
  | [], _, _, h => (nomatch h)
  | _ :: _, x, p, h => by
    rcases List.mem_cons.mp h with rfl | h
    · exact x.1
    · exact off1_mem x.2 p h
def off3I (I C D : Addr) (l : List (Addr × Obj)) : List (Addr × Obj) := offI D (offI C (offI I l))
theorem mem_off3I {I C D : Addr} {l : List (Addr × Obj)} {p : Addr × Obj} : p ∈ off3I I C D l ↔ p ∈ l ∧ p.1 ≠ I ∧ p.1 ≠ C ∧ p.1 ≠ D := by
  unfold off3I
  rw [mem_offI, mem_offI, mem_offI]
  exact ⟨fun h => ⟨h.1.1.1, h.1.1.2, h.1.2, h.2⟩, fun h => ⟨⟨⟨h.1, h.2.1⟩, h.2.2.1⟩, h.2.2.2⟩⟩
theorem LawJ.snoc {w : World} {c : Addr} {o9 : Obj} {st T I C D a : Addr} {te t : Tree} {ve v tag : Value} {len n : Nat} {row : List Tree} {ys : List Value} {nx ny tl2 : List (Addr × Obj)} (h : LawJ w c o9 st T te ve len row ys nx) (hc : c ≠ st) (hT : T ≠ st) (hoff : ∀ p ∈ nx, p.1 ≠ I ∧ p.1 ≠ C ∧ p.1 ≠ D)
    (keep : ∀ p ∈ nx, p.1 ≠ st → p ∈ ny) (hst : StOk st ny) (h9 : ∀ p ∈ tl2, p ∈ ny) (h10 : ∀ p ∈ tl2, p.1 ≠ st ∧ p.1 ≠ T ∧ p.1 ≠ I ∧ p.1 ≠ C ∧ p.1 ≠ D) (ha : (a, ({ cls := .type "tuple", data := .seq #[tag, v] n } : Obj)) ∈ ny) (h11 : a ≠ st ∧ a ≠ T ∧ a ≠ I ∧ a ≠ C ∧ a ≠ D)
    (hg : TagV tag) (ht : TreeIn w.params tl2 t v) (hb : Ok 3 2 t ∧ Menu t) : LawJ w c o9 st T te ve len (row ++ [t]) (ys ++ [.ref a]) (off3I I C D ny) := by
  obtain ⟨tl, o, kvs, tab, j1, j2, j3, j4, j5, j6, j7, j8⟩ := h
  have up : ∀ p ∈ nx, p.1 ≠ st → p ∈ off3I I C D ny := fun p hp hne => mem_off3I.mpr ⟨keep p hp hne, hoff p hp⟩
  have hst' : StOk st (off3I I C D ny) := by
    obtain ⟨us, k, n, q1, q2, q3⟩ := hst
    obtain ⟨_, _, _, z, _⟩ := j2
    have z2 := hoff _ z
    exact ⟨us, k, n, mem_off3I.mpr ⟨q1, z2⟩, q2, q3⟩
  have hm := j8.mono (tl' := (a, ({ cls := .type "tuple", data := .seq #[tag, v] n } : Obj)) :: (tl ++ tl2)) fun p hp => .tail _ (List.mem_append_left _ hp)
  refine ⟨_, o, kvs, tab, up _ j1 hc, hst', up _ j3 hT, j4, j5, ?_, ?_, hm.snoc (.head _) hg (ht.mono fun p hp => .tail _ (List.mem_append_right _ hp)) hb⟩
  · intro p hp
    rcases List.mem_cons.mp hp with rfl | hp
    · exact mem_off3I.mpr ⟨ha, h11.2.2⟩
    · rcases List.mem_append.mp hp with hp | hp
      · exact up p (j6 p hp) (j7 p hp).1
      · exact mem_off3I.mpr ⟨h9 p hp, (h10 p hp).2.2⟩
  · intro p hp
    rcases List.mem_cons.mp hp with rfl | hp
    · exact ⟨h11.1, h11.2.1⟩
    · rcases List.mem_append.mp hp with hp | hp
      · exact j7 p hp
      · exact ⟨(h10 p hp).1, (h10 p hp).2.1⟩
theorem LawJ.dots {w : World} {c : Addr} {o9 o' : Obj} {st T D : Addr} {te : Tree} {ve : Value} {len n : Nat} {row : List Tree} {ys : List Value} {nx tl : List (Addr × Obj)} {kvs : List (Str × Value)} {tab : Tab} (hcT : c ≠ T) (hT : st ≠ T) (hD : ∀ p ∈ nx, p.1 ≠ D) (hDT : T ≠ D) (hr : row.length ≤ 2)
    (h1 : (c, o9) ∈ nx) (h2 : StOk st nx) (h5 : kvs.length ≤ len) (h6 : ∀ p ∈ tl, p ∈ nx) (h7 : ∀ p ∈ tl, p.1 ≠ st ∧ p.1 ≠ T) (h8 : TabS w.params tl te ve kvs tab row ys) (hd : o'.IsDictOf (PySem.strKind PySem.Challenge.rw_ov0039_01.row.prog w) (stored kvs dotsS (.ref D))) :
    LawJ w c o9 st T te ve (len + 1) [] [] ((T, o') :: offI T ((D, listOf (List.toArray ys) n) :: nx)) := by
  have hm := h8.mono (tl' := (D, listOf (List.toArray ys) n) :: tl) fun p hp => .tail _ hp
  have hsD := h2.ne hD
  refine ⟨_, o', stored kvs dotsS (.ref D), _, .tail _ (mem_offI.mpr ⟨.tail _ h1, hcT⟩), (h2.off hT).mono fun p hp => .tail _ (mem_offI.mpr ⟨.tail _ (mem_offI.mp hp).1, (mem_offI.mp hp).2⟩), .head _, hd, Nat.le_trans (stored_length_le _ _ _) (Nat.succ_le_succ h5), ?_, ?_, hm.dots (.head _) hr⟩
  · intro p hp
    rcases List.mem_cons.mp hp with rfl | hp
    · exact .tail _ (mem_offI.mpr ⟨.head _, hDT.symm⟩)
    · exact .tail _ (mem_offI.mpr ⟨.tail _ (h6 p hp), (h7 p hp).2⟩)
  · intro p hp
    rcases List.mem_cons.mp hp with rfl | hp
    · exact ⟨hsD.symm, hDT.symm⟩
    · exact h7 p hp
theorem nameLt3 {l : List (Addr × Obj)} {a b c d : Addr} (_ : a < d ∧ b < d ∧ c < d ∧ AllLt d l) : ∃ x, x = d := ⟨d, rfl⟩
theorem compEnd3 {h₀ : Heap} {L I C D : Addr} {m : Str → Option Value} {s₁ : Shared} {oI oC oD : Obj} {S : List (Addr × Obj) → Prop} {rest : Value → List (Addr × Obj) → Prop} {y : Value} {h' : Heap} {tk : Nat} {all : List (Addr × Obj)}
    (F : Fr h₀ L h' m) (N : News h₀ L h' all) (hI : (I, oI) ∈ all) (hC : (C, oC) ∈ all) (hD : (D, oD) ∈ all) (hS : S (off3I I C D all)) (r : rest y (off3I I C D all)) :
    LCg.CompEnd h₀ L m s₁ I oI C oC D oD S rest y { s₁ with heap := h', toks := tk } := by
  refine LCg.CompEnd.intro F N _ ?_ (LCg.Off3.of fun p hp => (mem_off3I.mp hp).2) hS r
  intro p hp
  rcases List.mem_cons.mp hp with rfl | hp
  · exact hI
  · rcases List.mem_cons.mp hp with rfl | hp
    · exact hC
    · rcases List.mem_cons.mp hp with rfl | hp
      · exact hD
      · exact (mem_off3I.mp hp).1
theorem kindS_call (t : Tree) : (kindS t == Str.ofString "language") = isCall t := by
  cases t
  · show (Str.ofString "symbol" == Str.ofString "language") = false
    decide +kernel
  · show (Str.ofString "integer" == Str.ofString "language") = false
    decide +kernel
  · show (Str.ofString "language" == Str.ofString "language") = true
    decide +kernel
theorem dis2 {a b : Addr × Obj} {tl : List (Addr × Obj)} (h1 : ∀ p ∈ tl, p.1 ≠ a.1) (h2 : ∀ p ∈ tl, p.1 ≠ b.1) : ∀ p ∈ [a, b], ∀ q ∈ tl, p.1 ≠ q.1 := fa2 (fun q hq => (h1 q hq).symm) (fun q hq => (h2 q hq).symm)
theorem in2 {a b : Addr × Obj} {tl nx : List (Addr × Obj)} (h1 : a ∈ nx) (h2 : b ∈ nx) (h : ∀ p ∈ tl, p ∈ nx) : ∀ p ∈ [a, b] ++ tl, p ∈ nx := fun p hp => by
  rcases List.mem_append.mp hp with hp | hp
  · exact (fa2 (P := fun p => p ∈ nx) h1 h2) p hp
  · exact h p hp
theorem dis3 {a b c : Addr × Obj} {tl : List (Addr × Obj)} (h1 : ∀ p ∈ tl, p.1 ≠ a.1) (h2 : ∀ p ∈ tl, p.1 ≠ b.1) (h3 : ∀ p ∈ tl, p.1 ≠ c.1) : ∀ p ∈ [a, b, c], ∀ q ∈ tl, p.1 ≠ q.1 := fa3 (fun q hq => (h1 q hq).symm) (fun q hq => (h2 q hq).symm) (fun q hq => (h3 q hq).symm)
theorem in3 {a b c : Addr × Obj} {tl nx : List (Addr × Obj)} (h1 : a ∈ nx) (h2 : b ∈ nx) (h3 : c ∈ nx) (h : ∀ p ∈ tl, p ∈ nx) : ∀ p ∈ [a, b, c] ++ tl, p ∈ nx := fun p hp => by
  rcases List.mem_append.mp hp with hp | hp
  · exact (fa3 (P := fun p => p ∈ nx) h1 h2 h3) p hp
  · exact h p hp
theorem newsCons {h₀ h : Heap} {L : Addr} {e : Addr × Obj} {news : List (Addr × Obj)} (N : News h₀ L h news) (hm : e ∈ news) : News h₀ L h (e :: news) := newsSub N fun p hp => by
  rcases List.mem_cons.mp hp with rfl | hp
  · exact hm
  · exact hp
theorem isCall_ex {t : Tree} (h : isCall t = true) : ∃ ts, t = .call ts := by
  cases t with
  | call ts => exact ⟨ts, rfl⟩
  | sym x => cases h
  | vec k => cases h
def spreadN (tab : Tab) : Nat := (tab.dots.getD []).length
theorem spread_ex {P : Params} {h₀ h : Heap} {L l : Addr} {rest nx : List (Addr × Obj)} {kvs : List (Str × Value)} {tab : Tab} (_ : News h₀ L h nx) (hkv : KvsIn P rest kvs tab) (hs : ∀ p ∈ rest, p ∈ nx) (hl : (l, listOf #[] 0) ∈ nx) :
    ∃ sl svs n, (valueAt kvs dotsS).getD (.ref l) = .ref sl ∧ (sl, listOf (List.toArray svs) n) ∈ nx ∧ svs.length = spreadN tab := by
  cases hd : tab.dots with
  | none => exact ⟨l, [], 0, by rw [hkv.dots0 hd]; rfl, hl, by simp [spreadN, hd]⟩
  | some row =>
    obtain ⟨sl, vs, n, e, hm, hr⟩ := hkv.dots row hd
    exact ⟨sl, vs, n, by rw [e]; rfl, hs _ hm, by simp [spreadN, hd, hr.length]⟩
theorem spl_len (tab : Tab) (t : Tree) : (spl tab t).length = if hasDots tab t = true then spreadN tab else 1 := by
  split
  · rename_i h
    obtain ⟨row, hr, hs⟩ := spl_yes h
    rw [hs, spreadN, hr]
    rfl
  · rename_i h
    rw [spl_no (by simpa using h)]
    rfl
def cntN (tab : Tab) (ts : List Tree) (i : Nat) : Int := ((substL tab (ts.take i)).length : Nat)
theorem cntN_yes {tab : Tab} {ts : List Tree} {i : Nat} {t : Tree} (h : ts[i]? = some t) (hh : hasDots tab t = true) : cntN tab ts (i + 1) = cntN tab ts i + (spreadN tab : Int) := by
  unfold cntN
  rw [List.take_add_one, h, substL_append]
  simp only [Option.toList_some, substL_one, List.length_append, spl_len, if_pos hh]
  omega
theorem cntN_no {tab : Tab} {ts : List Tree} {i : Nat} {t : Tree} (h : ts[i]? = some t) (hh : hasDots tab t = false) : cntN tab ts (i + 1) = cntN tab ts i + 1 := by
  unfold cntN
  rw [List.take_add_one, h, substL_append]
  have : ¬ hasDots tab t = true := by rw [hh]; decide
  simp only [Option.toList_some, substL_one, List.length_append, spl_len, if_neg this]
  omega
theorem cnt_ex {tab : Tab} {ts : List Tree} {i : Nat} {k : Int} {tk : Tok} (h : k = cntN tab ts i) : ∃ tc, some (Value.int k tk) = some (Value.int (cntN tab ts i) tc) := ⟨tk, by rw [h]⟩
theorem cntN_zero (tab : Tab) (ts : List Tree) : (0 : Int) = cntN tab ts 0 := by simp [cntN, substL]
local macro_rules | `(tactic| walk_at "setItem ref str") => `(tactic| (refine hold ?_))
local macro_rules | `(tactic| walk_at "getAttr ref") => `(tactic| (refine hold ?_))
local macro_rules | `(tactic| walk_at "compareOp NotEq ref ref") => `(tactic| (refine hold ?_))
local macro_rules | `(tactic| walk_at "exec For Name List cons nil") => `(tactic| walk_at "exec For")
/-! the law -/
theorem law_all : PySem.Challenge.rw_ov0039_01.Holds := Mine0.hd (by
  k_go0
  all_goals try k_fold
  k_steps
  refine Hold.mk ?_
  rename Fr _ _ _ _ => F0
  rename News _ _ _ _ => N0
  rename Below _ _ _ _ => B0
  rename Heap.IsList _ _ _ => hL
  rename IntsAre _ _ => hI
  rename (¬ _ < _) => h63
  have hlen := hI.length
  k_dflt (refine' tel_stack ?B F0 ?X N0 ?T rfl (by decide) (by decide) hL hI ?z ?_)
  case B => k_asm
  case X => k_asm
  case T => k_asm
  case z => omega
  intro r news1 h1 tk1 st us k n F1 N1 er hst hik hus hsub1 hlt1
  subst er
  have hcell := hsub1 _ (.head _)
  have hcst := hlt1 _ (.head _)
  obtain ⟨N2, hoffc⟩ := offCons2 N1 hcell
  clear N1 N0 F0
  k_steps
  refine Hold.mk ?_
  rename (_ = Data.cell (some (Value.ref st))) => hd9
  rename News _ _ _ _ => N3
  have hst2 := StOk.ofN N3 (.tail _ (mem_offI.mpr ⟨hst, Nat.ne_of_gt hcst⟩)) hik hus
  k_dflt (refine' tel_use (treeC 3 hst2 rfl) ?u10_1 ?u10_2 ?u10_3 ?u10_4 ?u10_5 ?u10_6 ?u10_7 ?u10_8 ?u10_9 ?_)
  case u10_1 => k_asm
  case u10_2 => k_asm
  case u10_3 => k_asm
  case u10_4 => k_asm
  case u10_5 => k_asm
  case u10_6 => rfl
  case u10_7 => decide
  case u10_8 => decide
  case u10_9 => exact fun p hp => hp
  rintro ve news4 h4 tk4 F4 N4 ⟨te, tl, hT, hOk, hMn, hst4, hsub4, htl4, hoff4⟩
  obtain ⟨ea, rfl⟩ := hT.ref
  clear N3
  k_steps
  refine Hold.mk ?_
  rename Fr _ _ _ _ => F5
  rename News _ _ _ _ => N5
  rename (Obj.IsDictOf (PySem.strKind _ _) _ []) => hDict0
  rename ((_ == sysModules) = false) => hlo
  rename PyProof.V.FlatPairs PyData.str _ _ => hfs
  rename PyProof.V.FlatPairs PyData.int _ _ => hfi
  clear hfs hfi
  rename (∀ p ∈ news4, _ < _) => hT4
  rename (_ ∧ AllLt _ news4) => hL4
  obtain ⟨T, rfl⟩ := nameLt hT4
  obtain ⟨l3, rfl⟩ := nameLt2 hL4
  have hcst' := Nat.ne_of_lt hcst
  have hc4 := hsub4 _ (.head _) hcst'
  have hcT := Nat.ne_of_lt (hT4 _ hc4)
  have hstT : st ≠ T := by
    obtain ⟨_, _, _, q, _⟩ := hst4
    exact Nat.ne_of_lt (hT4 _ q)
  have hTst := hstT.symm
  have hl3T : l3 ≠ T := Nat.ne_of_gt hL4.1
  have hl3st : l3 ≠ st := Nat.ne_of_gt (hst4.lt (allLt_exW hL4.2))
  have hJ0 := LawJ.start N5 hc4 hst4 hDict0 htl4 (fun p hp => ⟨(hoff4 p hp).1, Nat.ne_of_lt (hT4 _ (htl4 p hp))⟩) hT
  k_dflt (refine' for_list (fun i m nx => m (Str.ofString "e") = some (.ref ea) ∧ m (Str.ofString "table") = some (.ref T) ∧ (l3, _) ∈ nx ∧ LawJ _ _ _ st T te (.ref ea) i [] [] nx) rfl (.head _) F5 N5 ⟨rfl, rfl, .head _, hJ0⟩ (fun i m nx hj => hj.2.2.1) ?turn ?done)
  case turn =>
    rintro i v m1 nx h tk I it hv ⟨hm1, hm2, hl3, hJ⟩ hI1 hI2 F6 N6
    obtain ⟨x, tx, rfl, hx3⟩ := nameOf hv
    have hx : x ≠ dotsS := by rcases hx3 with rfl | rfl | rfl <;> decide
    have F7 := frLoop F6 [(Str.ofString "e", _), (Str.ofString "table", _)] rfl (fa2 hm1 hm2)
    have hcx := hJ.cell
    clear F6 F5 N5
    show wpAny _ _ _ _ _ _
    try k_fold
    k_steps
    refine Hold.mk ?_
    have hst6 := StOk.mono hJ.stOk (fun p hp => List.mem_cons_of_mem (I, it) hp)
    have hIst := (hJ.stOk.ne hI2).symm
    k_dflt (refine' tel_use (pullC hst6 (by decide)) ?u11_1 ?u11_2 ?u11_3 ?u11_4 ?u11_5 ?u11_6 ?u11_7 ?u11_8 ?u11_9 ?_)
    case u11_1 => k_asm
    case u11_2 => k_asm
    case u11_3 => k_asm
    case u11_4 => k_asm
    case u11_5 => k_asm
    case u11_6 => rfl
    case u11_7 => decide
    case u11_8 => decide
    case u11_9 => exact fun p hp => hp
    rintro r news7 h7 tk7 F8 N8 ⟨k7, tk7', rfl, hk0, hk2, hst7, keep7⟩
    have hI7 := keep7 _ (.head _) hIst
    have hl7 := keep7 _ (.tail _ hl3) hl3st
    have hc7 := keep7 _ (.tail _ hcx) hcst'
    clear F7 N6
    k_steps
    · refine Hold.mk ?_
      k_dflt (refine' tel_use (treeC 2 hst7 rfl) ?u12_1 ?u12_2 ?u12_3 ?u12_4 ?u12_5 ?u12_6 ?u12_7 ?u12_8 ?u12_9 ?_)
      case u12_1 => k_asm
      case u12_2 => k_asm
      case u12_3 => k_asm
      case u12_4 => k_asm
      case u12_5 => k_asm
      case u12_6 => rfl
      case u12_7 => decide
      case u12_8 => decide
      case u12_9 => exact fun p hp => hp
      rintro v9 news9 h9 tk9 F10 N10 ⟨t9, tl9, hT9, hOk9, hMn9, hst9, keep9, htl9, hoff9⟩
      obtain ⟨tl0, o0, kvs0, tabx, j1, j2, j3, j4, j5, j6, j7, j8⟩ := hJ
      have hT7 := keep7 _ (.tail _ j3) hTst
      have hT9' := keep9 _ hT7 hTst
      have hI9 := keep9 _ hI7 hIst
      have hl9 := keep9 _ hl7 hl3st
      have keepI : ∀ p ∈ nx, p.1 ≠ st → p ∈ offI I news9 := fun p hp hne => mem_offI.mpr ⟨keep9 p (keep7 p (.tail _ hp) hne) hne, hI2 p hp⟩
      have hTI := hI2 _ j3
      have hi3 : i < 3 := by have := (List.getElem?_eq_some_iff.mp hv).1; simpa using this
      clear F8 N8
      k_steps
      refine Hold.mk ?_
      rename Fr _ _ _ _ => F11
      rename News _ _ _ _ => N11
      k_dflt (refine' kda_set F11 (offCons N11 hT9') (.head fun p hp => (mem_offI.mp hp).2) j4 (strKind_is _ _ _ _) (by rw [sizeLine_eq]; omega) ?_)
      intro h12 o12 F12 N12 hd12
      clear F11 N11
      try dsimp only at N12
      k_steps
      refine LStep.next (by assumption) (by assumption) (.tail _ (mem_offI.mpr ⟨hI9, hTI.symm⟩)) ⟨rfl, rfl, mem_offI.mpr ⟨.tail _ (mem_offI.mpr ⟨hl9, hl3T⟩), hI2 _ hl3⟩, ?_⟩
      refine LawJ.mono (LawJ.set hcT hstT hx (nx := offI I news9) (keepI _ j1 hcst') (hst9.off hIst.symm) j5 (fun p hp => keepI p (j6 p hp) (j7 p hp).1) j7 j8 (fun p hp => mem_offI.mpr ⟨htl9 p hp, ((hoff9 p hp).2 _ hI7 hIst).symm⟩) (fun p hp => ⟨(hoff9 p hp).1, ((hoff9 p hp).2 _ hT7 hTst).symm⟩) hT9 ⟨hOk9, hMn9⟩ hd12) ?_
      intro p hp
      rcases List.mem_cons.mp hp with rfl | hp
      · exact mem_offI.mpr ⟨.head _, hTI⟩
      · have q1 := mem_offI.mp hp
        have q2 := mem_offI.mp q1.1
        exact mem_offI.mpr ⟨.tail _ (mem_offI.mpr ⟨q2.1, q1.2⟩), q2.2⟩
    · refine LStep.next (by assumption) (by assumption) hI7 ⟨rfl, rfl, mem_offI.mpr ⟨hl7, hI2 _ hl3⟩, (hJ.loop hI2 hcst' hTst hst7 keep7).le (Nat.le_succ _)⟩
  case done =>
    rintro m1 nx h tk ⟨hm1, hm2, hl3, hJ⟩ F6 N6
    have F7 := frSet F6 [(Str.ofString "e", _), (Str.ofString "table", _)] (fa2 hm1 hm2)
    replace hJ := hJ.le (len' := 4) (by show 3 ≤ 4; decide)
    have hcx := hJ.cell
    clear F6 F5 N5
    show wpAny _ _ _ _ _ _
    try k_fold
    walk1
    refine if_join F7 (fun m nx => m (Str.ofString "e") = some (.ref ea) ∧ m (Str.ofString "table") = some (.ref T) ∧ LawJ _ _ _ st T te (.ref ea) 5 [] [] nx) ⟨rfl, rfl, hJ.le (by decide)⟩ ?h1 ?h2
    case h1 =>
      k_steps
      refine Hold.mk ?_
      k_dflt (refine' tel_use (pullC hJ.stOk (by decide)) ?u13_1 ?u13_2 ?u13_3 ?u13_4 ?u13_5 ?u13_6 ?u13_7 ?u13_8 ?u13_9 ?_)
      case u13_1 => k_asm
      case u13_2 => k_asm
      case u13_3 => k_asm
      case u13_4 => k_asm
      case u13_5 => k_asm
      case u13_6 => rfl
      case u13_7 => decide
      case u13_8 => decide
      case u13_9 => exact fun p hp => hp
      rintro r news7 h7 tk7 F8 N8 ⟨k7, tk7', rfl, hk0, hk2, hst7, keep7⟩
      have hJ7 := hJ.mv hcst' hTst hst7 keep7
      have hc7 := hJ7.cell
      clear F7 N6
      k_steps
      · refine Hold.mk ?_
        rename Fr _ _ _ _ => F9
        k_dflt (refine' LCg.ListComp_U F9 ?c1 ?c2 ?c3 ?c4 ?c5 ?_)
        case c1 => with_unfolding_all rfl
        case c2 => decide
        case c3 => rfl
        case c4 => decide
        case c5 => rfl
        k_steps
        refine Hold.mk ?_
        k_dflt (refine' tel_use (pullC hst7 (by decide)) ?u14_1 ?u14_2 ?u14_3 ?u14_4 ?u14_5 ?u14_6 ?u14_7 ?u14_8 ?u14_9 ?_)
        case u14_1 => k_asm
        case u14_2 => k_asm
        case u14_3 => k_asm
        case u14_4 => k_asm
        case u14_5 => k_asm
        case u14_6 => rfl
        case u14_7 => decide
        case u14_8 => decide
        case u14_9 => exact fun p hp => hp
        rintro r news10 h10 tk10 F10 N10 ⟨k10, tk10', rfl, hk10, hk13, hst10, keep10⟩
        have hJ10 := hJ7.mv hcst' hTst hst10 keep10
        clear F9
        k_steps
        refine Hold.mk ?_
        refine range1_rows F10 N10 ?_
        intro h11 tk11 u1 u2 u3 hR F11 N11 _
        try dsimp only at hR
        try dsimp only
        refine LCg.CompSrc.range rfl F11 N11 hR (small_one (by decide) (by decide) (by omega) (by omega)) (rangeSize_nat _ _) (by rw [sizeLine_eq]; omega) ?_
        intro g
        try dsimp only
        refine comp_restU (fun i ys nw => ∃ row, row.length = i ∧ LawJ _ _ _ st T te (.ref ea) 4 row ys nw) ⟨[], rfl, hJ10⟩ ?turn2 ?done2
        case turn2 =>
          rintro i ys nw v I oI C oC D m₂ h tk E' hi ⟨row, hrl, hJ⟩ hv hC hx F12 N12 off ne
          have hcx2 := hJ.cell
          clear F10 N10 F11 N11
          try dsimp only
          k_steps
          refine Hold.mk ?_
          rename News _ _ _ _ => N13
          rename (_ ∧ _ ∧ _ ∧ AllLt _ nw) => hlm
          have hstA := StOk.up N13 hJ.stOk (fun p hp => .tail _ (.tail _ (.tail _ (.tail _ hp))))
          obtain ⟨lm, rfl⟩ := nameLt3 hlm
          have hsI := hJ.stOk.ne fun p hp => (off p hp).1
          have hsC := hJ.stOk.ne fun p hp => (off p hp).2.1
          have hsD := hJ.stOk.ne fun p hp => (off p hp).2.2
          have hlmst : lm ≠ st := Nat.ne_of_gt (hJ.stOk.lt (allLt_exW hlm.2.2.2))
          have hTn : ∃ o, (T, o) ∈ nw := by obtain ⟨_, o, _, _, _, _, z, _⟩ := hJ; exact ⟨o, z⟩
          obtain ⟨oT, hTn⟩ := hTn
          k_dflt (refine' tel_use (pullC hstA (by decide)) ?u15_1 ?u15_2 ?u15_3 ?u15_4 ?u15_5 ?u15_6 ?u15_7 ?u15_8 ?u15_9 ?_)
          case u15_1 => k_asm
          case u15_2 => k_asm
          case u15_3 => k_asm
          case u15_4 => k_asm
          case u15_5 => k_asm
          case u15_6 => rfl
          case u15_7 => decide
          case u15_8 => decide
          case u15_9 => exact fun p hp => hp
          rintro r news14 h14 tk14 F14 N14 ⟨k14, tk14', rfl, hk140, hk142, hst14, keep14⟩
          have hlm14 := keep14 _ (.head _) hlmst
          have hI14 := keep14 _ (.tail _ (.head _)) hsI.symm
          have hC14 := keep14 _ (.tail _ (.tail _ (.head _))) hsC.symm
          have hD14 := keep14 _ (.tail _ (.tail _ (.tail _ (.head _)))) hsD.symm
          have hT14 := keep14 _ (.tail _ (.tail _ (.tail _ (.tail _ hTn)))) hTst
          have hc14 := keep14 _ (.tail _ (.tail _ (.tail _ (.tail _ hcx2)))) hcst'
          try dsimp only
          clear N13
          k_steps
          refine Hold.mk ?_
          obtain ⟨vt, hvt, htv⟩ := tagMenu hlm14 hk140 hk142
          k_dflt (refine' my_item N14 hlm14 hk140 (by omega) hvt ?_ (by with_unfolding_all rfl))
          try dsimp only
          k_steps
          refine Hold.mk ?_
          k_dflt (refine' tel_use (treeC 1 hst14 rfl) ?u16_1 ?u16_2 ?u16_3 ?u16_4 ?u16_5 ?u16_6 ?u16_7 ?u16_8 ?u16_9 ?_)
          case u16_1 => k_asm
          case u16_2 => k_asm
          case u16_3 => k_asm
          case u16_4 => k_asm
          case u16_5 => k_asm
          case u16_6 => rfl
          case u16_7 => decide
          case u16_8 => decide
          case u16_9 => exact fun p hp => hp
          rintro v15 news15 h15 tk15 F15 N15 ⟨t15, tl15, hT15, hOk15, hMn15, hst15, keep15, htl15, hoff15⟩
          have hI15 := keep15 _ hI14 hsI.symm
          have hC15 := keep15 _ hC14 hsC.symm
          have hD15 := keep15 _ hD14 hsD.symm
          have hT15' := keep15 _ hT14 hTst
          clear N14
          try dsimp only
          k_steps
          rename (∀ p ∈ news15, _ < _) => hlt15
          rename Fr _ _ _ _ => F16
          rename News _ _ _ _ => N16
          refine compEnd3 F16 N16 (.tail _ hI15) (.tail _ hC15) (.tail _ hD15) trivial ⟨row ++ [t15], by rw [List.length_append, hrl]; rfl, ?fin⟩
          case fin =>
            exact LawJ.snoc hJ hcst' hTst off (fun p hp hne => .tail _ (keep15 p (keep14 p (.tail _ (.tail _ (.tail _ (.tail _ hp)))) hne) hne)) (hst15.mono fun p hp => .tail _ hp) (fun p hp => .tail _ (htl15 p hp)) (fun p hp => ⟨(hoff15 p hp).1, ((hoff15 p hp).2 _ hT14 hTst).symm, ((hoff15 p hp).2 _ hI14 hsI.symm).symm, ((hoff15 p hp).2 _ hC14 hsC.symm).symm, ((hoff15 p hp).2 _ hD14 hsD.symm).symm⟩) (.head _)
              ⟨Nat.ne_of_gt (hst15.lt hlt15), Nat.ne_of_gt (hlt15 _ hT15'), Nat.ne_of_gt (hlt15 _ hI15), Nat.ne_of_gt (hlt15 _ hC15), Nat.ne_of_gt (hlt15 _ hD15)⟩ htv hT15 ⟨hOk15.mono (Nat.le_refl _) (by decide), hMn15⟩
        case done2 =>
          rintro ys nw ⟨row, hrl, hJ⟩ D h tk F12 N12 o1
          clear F10 N10 F11 N11
          obtain ⟨tl0, o0, kvs0, tabx, j1, j2, j3, j4, j5, j6, j7, j8⟩ := hJ
          have hD := off1_mem o1
          have hTD := hD _ j3
          k_steps
          refine Hold.mk ?_
          rename Fr _ _ _ _ => F13
          rename News _ _ _ _ => N13
          k_dflt (refine' kda_set F13 (offCons N13 (.tail _ j3)) (.head fun p hp => (mem_offI.mp hp).2) j4 (strKind_is _ _ _ _) (by rw [sizeLine_eq]; omega) ?_)
          intro h14 o14 F14 N14 hd14
          clear F13 N13
          try dsimp only at N14
          try dsimp only
          k_steps
          exact JoinP.mk (by assumption) (by assumption) ⟨rfl, rfl, LawJ.dots hcT hstT hD hTD (by omega) j1 j2 j5 j6 j7 j8 hd14⟩
      · exact JoinP.mk (by assumption) (by assumption) ⟨rfl, rfl, hJ7.le (by decide)⟩
    case h2 =>
      clear F7 N6 hJ hcx
      rintro h' tk m' nx F' N20 ⟨hm1, hm2, hJ⟩
      obtain ⟨tl0, o0, kvs, tab, j1, j2, j3, j4, j5, j6, j7, j8⟩ := hJ
      have F20 := frSet F' [(Str.ofString "e", _), (Str.ofString "table", _)] (fa2 hm1 hm2)
      clear F' hm1 hm2 j1 j2
      show wpAny _ _ _ _ _ _
      try k_fold
      k_steps
      refine Hold.mk ?_
      k_dflt (refine' tel_use (tel_leaves 3 te (.ref ea) nx (hOk.mono (by decide) (by decide)) (by decide) (j8.tree.mono j6)) ?u17_1 ?u17_2 ?u17_3 ?u17_4 ?u17_5 ?u17_6 ?u17_7 ?u17_8 ?u17_9 ?_)
      case u17_1 => k_asm
      case u17_2 => k_asm
      case u17_3 => k_asm
      case u17_4 => k_asm
      case u17_5 => k_asm
      case u17_6 => rfl
      case u17_7 => decide
      case u17_8 => decide
      case u17_9 => exact fun p hp => hp
      rintro r news21 h21 tk21 F21 N21 ⟨lb, lvb, nb, rfl, hlb, hlvb, sub21, ne21⟩
      have hT21 := sub21 _ j3
      try clear F20 N20
      try dsimp only
      k_steps
      refine Hold.mk ?_
      k_dflt (refine' tel_use (tel_subst 3 (by decide) T o0 kvs tab j4 hlo (fun row hr => (j8.bound.row row hr).1) 3 te (.ref ea) [(T, o0), (lb, listOf (List.toArray lvb) nb)] tl0 hOk j8.tree (.head _) j8.kv (dis2 (fun p hp => (j7 p hp).2) (fun p hp => ne21 p (j6 p hp)))) ?u18_1 ?u18_2 ?u18_3 ?u18_4 ?u18_5 ?u18_6 ?u18_7 ?u18_8 ?u18_9 ?_)
      case u18_1 => k_asm
      case u18_2 => k_asm
      case u18_3 => k_asm
      case u18_4 => k_asm
      case u18_5 => k_asm
      case u18_6 => rfl
      case u18_7 => decide
      case u18_8 => decide
      case u18_9 => exact in2 hT21 hlb fun p hp => sub21 p (j6 p hp)
      rintro r news22 h22 tk22 F22 N22 ⟨rest, hR, hsh, hfrm, hrest, hdis⟩
      obtain ⟨ta, rfl⟩ := hR.ref
      have hT22 := hfrm _ (.head _)
      have hlb22 := hfrm _ (.tail _ (.head _))
      try clear N21
      try dsimp only
      k_steps
      refine Hold.mk ?_
      k_dflt (refine' attr_kind ?u1_1 ?u1_2 ?u1_3 (j8.tree.sh hsh) hrest ?_)
      case u1_1 => k_asm
      case u1_2 => k_asm
      case u1_3 => k_asm
      intro t1 tk23
      try dsimp only
      k_steps
      refine Hold.mk ?_
      rw [kindS_call]
      have hln := hOk.leaves (by decide)
      have hkv := j8.kv.sh (hsh.trans (.sub hrest))
      k_dflt (refine' tel_use (tel_put lb lvb nb te.leaves T o0 kvs tab (isCall te) news22 hlb22 hlvb (Nat.le_trans hln (by decide)) j4 hlo hT22 hkv j8.bound.ok) ?u19_1 ?u19_2 ?u19_3 ?u19_4 ?u19_5 ?u19_6 ?u19_7 ?u19_8 ?u19_9 ?_)
      case u19_1 => k_asm
      case u19_2 => k_asm
      case u19_3 => k_asm
      case u19_4 => k_asm
      case u19_5 => k_asm
      case u19_6 => rfl
      case u19_7 => decide
      case u19_8 => decide
      case u19_9 => exact fun p hp => hp
      rintro r news23 h23 tk23 F23 N23 ⟨ld, lvd, nd, rfl, hld, hlvd, sub23, ne23⟩
      rw [← subst_leaves] at hlvd
      have hMt : MenuL (subst tab te).leaves := by rw [subst_leaves]; exact MenuL.put j8.bound hMn
      have hOkT := Ok.subst j8.bound hOk
      have hlnT := hOkT.leaves (by decide)
      have hdR : ∀ q ∈ rest, q.1 ≠ ld := fun q hq => ne23 q (hrest q hq)
      have hRe := j8.tree.sh hsh
      try dsimp only
      k_steps
      refine Hold.mk ?_
      k_dflt (refine' tel_use (tel_leaves 5 (subst tab te) (.ref ta) news23 hOkT (by decide) (hR.mono fun p hp => sub23 p (hrest p hp))) ?u20_1 ?u20_2 ?u20_3 ?u20_4 ?u20_5 ?u20_6 ?u20_7 ?u20_8 ?u20_9 ?_)
      case u20_1 => k_asm
      case u20_2 => k_asm
      case u20_3 => k_asm
      case u20_4 => k_asm
      case u20_5 => k_asm
      case u20_6 => rfl
      case u20_7 => decide
      case u20_8 => decide
      case u20_9 => exact fun p hp => hp
      rintro r news24 h24 tk24 F24 N24 ⟨l4, lv4, n4, rfl, hl4, hlv4, sub24, ne24⟩
      try clear F23 N23
      try dsimp only
      k_steps
      refine Hold.mk ?_
      rename News _ _ _ _ => Na
      refine my_ne Na hl4 (sub24 _ hld) hlv4 hlvd hMt (Nat.le_of_ble_eq_true rfl) ?_
      try dsimp only
      k_steps
      refine Hold.mk ?_
      k_dflt (refine' tel_use (tel_all 5 (subst tab te) (.ref ta) news24 hOkT hMt.named (by decide) (hR.mono fun p hp => sub24 p (sub23 p (hrest p hp))) (Nat.le_trans hlnT (by decide))) ?u21_1 ?u21_2 ?u21_3 ?u21_4 ?u21_5 ?u21_6 ?u21_7 ?u21_8 ?u21_9 ?_)
      case u21_1 => k_asm
      case u21_2 => k_asm
      case u21_3 => k_asm
      case u21_4 => k_asm
      case u21_5 => k_asm
      case u21_6 => rfl
      case u21_7 => decide
      case u21_8 => decide
      case u21_9 => exact fun p hp => hp
      rintro r news25 h25 tk25 F25 N25 ⟨l5, lv5, n5, rfl, hl5, hlv5, sub25⟩
      try clear F24 Na
      try dsimp only
      k_steps
      refine Hold.mk ?_
      k_dflt (refine' tel_use (tel_texts ld lvd nd (subst tab te).leaves news25 (sub25 _ (sub24 _ hld)) hlvd (Nat.le_trans hlnT (by decide))) ?u22_1 ?u22_2 ?u22_3 ?u22_4 ?u22_5 ?u22_6 ?u22_7 ?u22_8 ?u22_9 ?_)
      case u22_1 => k_asm
      case u22_2 => k_asm
      case u22_3 => k_asm
      case u22_4 => k_asm
      case u22_5 => k_asm
      case u22_6 => rfl
      case u22_7 => decide
      case u22_8 => decide
      case u22_9 => exact fun p hp => hp
      rintro r news26 h26 tk26 F26 N26 ⟨l6, lv6, n6, rfl, hl6, hlv6, sub26⟩
      try clear F25 N25
      try dsimp only
      k_steps
      refine Hold.mk ?_
      rename News _ _ _ _ => Nb
      refine my_ne Nb (sub26 _ hl5) hl6 hlv5 hlv6 hMt.texts (Nat.le_of_ble_eq_true rfl) ?_
      try dsimp only
      have up26 : ∀ p ∈ news22, p ∈ news26 := fun p hp => sub26 p (sub25 p (sub24 p (sub23 p hp)))
      have hld26 := sub26 _ (sub25 _ (sub24 _ hld))
      k_steps
      refine Hold.mk ?_
      k_dflt (refine' tel_use (tel_leaves 3 te (.ref ea) news26 (hOk.mono (by decide) (by decide)) (by decide) (hRe.mono fun p hp => up26 p (hrest p hp))) ?u23_1 ?u23_2 ?u23_3 ?u23_4 ?u23_5 ?u23_6 ?u23_7 ?u23_8 ?u23_9 ?_)
      case u23_1 => k_asm
      case u23_2 => k_asm
      case u23_3 => k_asm
      case u23_4 => k_asm
      case u23_5 => k_asm
      case u23_6 => rfl
      case u23_7 => decide
      case u23_8 => decide
      case u23_9 => exact fun p hp => hp
      rintro r news27 h27 tk27 F27 N27 ⟨l7, lv7, n7, rfl, hl7, hlv7, sub27, ne27⟩
      try clear F26 Nb
      try dsimp only
      k_steps
      refine Hold.mk ?_
      rename News _ _ _ _ => Nc
      refine my_ne Nc hl7 (sub27 _ (up26 _ hlb22)) hlv7 hlvb hMn (Nat.le_of_ble_eq_true rfl) ?_
      try dsimp only
      k_steps
      refine Hold.mk ?_
      k_dflt (refine' tel_use (tel_all 3 te (.ref ea) news27 (hOk.mono (by decide) (by decide)) (MenuL.named hMn) (by decide) (hRe.mono fun p hp => sub27 p (up26 p (hrest p hp))) (Nat.le_trans hln (by decide))) ?u24_1 ?u24_2 ?u24_3 ?u24_4 ?u24_5 ?u24_6 ?u24_7 ?u24_8 ?u24_9 ?_)
      case u24_1 => k_asm
      case u24_2 => k_asm
      case u24_3 => k_asm
      case u24_4 => k_asm
      case u24_5 => k_asm
      case u24_6 => rfl
      case u24_7 => decide
      case u24_8 => decide
      case u24_9 => exact fun p hp => hp
      rintro r news28 h28 tk28 F28 N28 ⟨l8, lv8, n8, rfl, hl8, hlv8, sub28⟩
      try clear F27 Nc
      try dsimp only
      k_steps
      refine Hold.mk ?_
      k_dflt (refine' tel_use (tel_texts lb lvb nb te.leaves news28 (sub28 _ (sub27 _ (up26 _ hlb22))) hlvb (Nat.le_trans hln (by decide))) ?u25_1 ?u25_2 ?u25_3 ?u25_4 ?u25_5 ?u25_6 ?u25_7 ?u25_8 ?u25_9 ?_)
      case u25_1 => k_asm
      case u25_2 => k_asm
      case u25_3 => k_asm
      case u25_4 => k_asm
      case u25_5 => k_asm
      case u25_6 => rfl
      case u25_7 => decide
      case u25_8 => decide
      case u25_9 => exact fun p hp => hp
      rintro r news29 h29 tk29 F29 N29 ⟨l9, lv9, n9, rfl, hl9, hlv9, sub29⟩
      try clear F28 N28
      try dsimp only
      k_steps
      refine Hold.mk ?_
      rename News _ _ _ _ => Nd
      refine my_ne Nd (sub29 _ hl8) hl9 hlv8 hlv9 (MenuL.texts hMn) (Nat.le_of_ble_eq_true rfl) ?_
      try dsimp only
      have up29 : ∀ p ∈ news26, p ∈ news29 := fun p hp => sub29 p (sub28 p (sub27 p hp))
      have hld29 := up29 _ hld26
      have hT29 := up29 _ (up26 _ hT22)
      have hrest29 : ∀ p ∈ rest, p ∈ news29 := fun p hp => up29 p (up26 p (hrest p hp))
      have hdT := hdis _ (.head _)
      clear up26 up29 sub29 sub28 sub27 sub26 sub25 sub24 sub23 hl9 hlv9 hl8 hlv8 hl7 hlv7 hl6 hlv6 hl5 hlv5 hl4 hlv4 ne27 ne24 ne23 ne21 hkv hlb hlb22 hdis hfrm
      k_steps
      refine Hold.mk ?_
      rename (∀ p ∈ news29, _ < _) => hlt30
      rename ((_ == sysModules) = false) => hlo1
      rename (Obj.IsDictOf (PySem.strKind _ _) _ []) => hDict1
      rename PyProof.V.FlatPairs PyData.str _ _ => hfs
      rename PyProof.V.FlatPairs PyData.int _ _ => hfi
      clear hfs hfi
      obtain ⟨T1, rfl⟩ := nameLt hlt30
      k_dflt (refine' tel_use (tel_subst 6 (by decide) T1 _ [] tab0 hDict1 hlo1 (fun _ h => (nomatch h)) 5 (subst tab te) (.ref ta) [(T1, _), (T, o0), (ld, listOf (List.toArray lvd) nd)] rest hOkT hR (.head _) (TabS.start hR).kv (dis3 (fun p hp => Nat.ne_of_lt (hlt30 p (hrest29 p hp))) (fun p hp => (hdT p hp).symm) hdR)) ?u26_1 ?u26_2 ?u26_3 ?u26_4 ?u26_5 ?u26_6 ?u26_7 ?u26_8 ?u26_9 ?_)
      case u26_1 => k_asm
      case u26_2 => k_asm
      case u26_3 => k_asm
      case u26_4 => k_asm
      case u26_5 => k_asm
      case u26_6 => rfl
      case u26_7 => decide
      case u26_8 => decide
      case u26_9 => exact in3 (.head _) (.tail _ hT29) (.tail _ hld29) fun p hp => .tail _ (hrest29 p hp)
      rintro r news31 h31 tk31 F31 N31 ⟨rest2, hR2, hsh2, hfrm2, hrest2, hdis2⟩
      rw [subst_none] at hR2
      obtain ⟨tb, rfl⟩ := hR2.ref
      have hT31 := hfrm2 _ (.tail _ (.head _))
      have hld31 := hfrm2 _ (.tail _ (.tail _ (.head _)))
      have hdT2 := hdis2 _ (.tail _ (.head _))
      have hdl2 := hdis2 _ (.tail _ (.tail _ (.head _)))
      have hRa := hR.sh hsh2
      have hRe2 := hRe.sh hsh2
      clear hfrm2 hdis2 hlt30 hDict1 hlo1
      try clear F29 Nd
      try dsimp only
      k_steps
      refine Hold.mk ?_
      k_dflt (refine' attr_kind ?u2_1 ?u2_2 ?u2_3 hR2 hrest2 ?_)
      case u2_1 => k_asm
      case u2_2 => k_asm
      case u2_3 => k_asm
      intro t2 tk32
      try dsimp only
      k_steps
      refine Hold.mk ?_
      k_dflt (refine' attr_kind ?u3_1 ?u3_2 ?u3_3 hRa hrest2 ?_)
      case u3_1 => k_asm
      case u3_2 => k_asm
      case u3_3 => k_asm
      intro t3 tk33
      try dsimp only
      k_steps
      refine Hold.mk ?_
      rename (∀ p ∈ news31, _ < _) => hlt32
      rename ((_ == sysModules) = false) => hlo2
      rename (Obj.IsDictOf (PySem.strKind _ _) _ []) => hDict2
      rename PyProof.V.FlatPairs PyData.str _ _ => hfs
      rename PyProof.V.FlatPairs PyData.int _ _ => hfi
      clear hfs hfi
      obtain ⟨T2, rfl⟩ := nameLt hlt32
      k_dflt (refine' tel_use (tel_subst 6 (by decide) T2 _ [] tab0 hDict2 hlo2 (fun _ h => (nomatch h)) 5 (subst tab te) (.ref ta) [(T2, _), (T, o0), (ld, listOf (List.toArray lvd) nd)] rest2 hOkT hRa (.head _) (TabS.start hRa).kv (dis3 (fun p hp => Nat.ne_of_lt (hlt32 p (hrest2 p hp))) (fun p hp => (hdT2 p hp).symm) (fun p hp => (hdl2 p hp).symm))) ?u27_1 ?u27_2 ?u27_3 ?u27_4 ?u27_5 ?u27_6 ?u27_7 ?u27_8 ?u27_9 ?_)
      case u27_1 => k_asm
      case u27_2 => k_asm
      case u27_3 => k_asm
      case u27_4 => k_asm
      case u27_5 => k_asm
      case u27_6 => rfl
      case u27_7 => decide
      case u27_8 => decide
      case u27_9 => exact in3 (.head _) (.tail _ hT31) (.tail _ hld31) fun p hp => .tail _ (hrest2 p hp)
      rintro r news33 h33 tk34 F33 N33 ⟨rest3, hR3, hsh3, hfrm3, hrest3, hdis3⟩
      rw [subst_none] at hR3
      obtain ⟨tc, rfl⟩ := hR3.ref
      have hT33 := hfrm3 _ (.tail _ (.head _))
      have hld33 := hfrm3 _ (.tail _ (.tail _ (.head _)))
      have hRb := hRa.sh hsh3
      have hRe3 := hRe2.sh hsh3
      have hkv3 := j8.kv.sh (((hsh.trans hsh2).trans hsh3))
      clear hfrm3 hdis3 hlt32 hDict2 hlo2 hdT2 hdl2
      try clear F31 N31
      try dsimp only
      k_steps
      refine Hold.mk ?_
      k_dflt (refine' tel_use (tel_leaves 5 (subst tab te) (.ref tc) news33 hOkT (by decide) (hR3.mono hrest3)) ?u28_1 ?u28_2 ?u28_3 ?u28_4 ?u28_5 ?u28_6 ?u28_7 ?u28_8 ?u28_9 ?_)
      case u28_1 => k_asm
      case u28_2 => k_asm
      case u28_3 => k_asm
      case u28_4 => k_asm
      case u28_5 => k_asm
      case u28_6 => rfl
      case u28_7 => decide
      case u28_8 => decide
      case u28_9 => exact fun p hp => hp
      rintro r news34 h34 tk35 F34 N34 ⟨l10, lv10, n10, rfl, hl10, hlv10, sub34, ne34⟩
      try clear F33 N33
      try dsimp only
      k_steps
      refine Hold.mk ?_
      rename News _ _ _ _ => Ne
      refine my_ne Ne hl10 (sub34 _ hld33) hlv10 hlvd hMt (Nat.le_of_ble_eq_true rfl) ?_
      have hT34 := sub34 _ hT33
      have hrest34 : ∀ p ∈ rest3, p ∈ news34 := fun p hp => sub34 p (hrest3 p hp)
      try dsimp only
      k_steps
      refine Hold.mk ?_
      k_dflt (refine' attr_kind ?u4_1 ?u4_2 ?u4_3 hRe3 hrest34 ?_)
      case u4_1 => k_asm
      case u4_2 => k_asm
      case u4_3 => k_asm
      intro t4 tk36
      try dsimp only
      rename News _ _ _ _ => Nf
      have Ng := newsCons Nf hT34
      clear Nf
      k_steps
      · rename ((kindS te == Str.ofString "language") = true) => hq
        rw [kindS_call] at hq
        obtain ⟨ts, rfl⟩ := isCall_ex hq
        rename News _ _ _ _ => Nh
        obtain ⟨sl, svs, sn, hsv, hsl, hsn⟩ := spread_ex Nh hkv3 (fun p hp => .tail _ (.tail _ (hrest34 p hp))) (.head _)
        refine kdg_get2 Nh (.tail _ (.head _)) j4 hlo (strKind_is _ _ _ _) _ rfl ?_
        rw [hsv]
        have hs1 : svs.length ≤ 2 := by
          rw [hsn, spreadN]
          cases hd : tab.dots with
          | none => exact Nat.zero_le _
          | some row => exact (j8.bound.row row hd).1
        k_steps
        refine Hold.mk ?_
        rename News _ _ _ _ => Ni
        refine my_len Ni hsl (by omega) ?_
        rw [hsn]
        try dsimp only
        k_steps
        refine Hold.mk ?_
        rename News _ _ _ _ => Nj
        k_dflt (refine' attr_items ?u5_1 ?u5_2 Nj hRe3 (fun p hp => .tail _ (.tail _ (hrest34 p hp))) ?_)
        case u5_1 => k_asm
        case u5_2 => k_asm
        intro li vi ni tki hli hTs
        try dsimp only
        k_steps
        refine Hold.mk ?_
        rename Fr _ _ _ _ => F40
        have hdots : (valueAt kvs dotsS).isSome = tab.dots.isSome := by
          cases hd : tab.dots with
          | none => rw [hkv3.dots0 hd]; rfl
          | some row => obtain ⟨_, _, _, e9, _⟩ := hkv3.dots row hd; rw [e9]; rfl
        k_dflt (refine' for_list (fun i m nx => m (Str.ofString "told") = some (.ref ta) ∧ m (Str.ofString "table") = some (.ref T) ∧ m (Str.ofString "spread") = some (.int (spreadN tab : Nat) _) ∧ (∃ tcn, m (Str.ofString "count") = some (.int (cntN tab ts i) tcn)) ∧ ∀ p ∈ _ :: (T, o0) :: news34, p ∈ nx) rfl hli F40 Nj ⟨rfl, rfl, rfl, cnt_ex (cntN_zero tab ts), fun p hp => hp⟩ (fun i m nx hj => hj.2.2.2.2 _ hli) ?turn3 ?done3)
        case turn3 =>
          rintro i v m1 nx h tk I it hv ⟨hm1, hm2, hm3, ⟨tcn, hm4⟩, hsub⟩ hI1 hI2 F41 N41
          obtain ⟨t, ht, hTi⟩ := hTs.get hv
          obtain ⟨va, rfl⟩ := hTi.ref
          have F42 := frLoop F41 [(Str.ofString "told", _), (Str.ofString "table", _), (Str.ofString "spread", _), (Str.ofString "count", _)] rfl (fa4 hm1 hm2 hm3 hm4)
          have hTn := hsub _ (.tail _ (.head _))
          have hrn : ∀ p ∈ rest3, p ∈ (I, it) :: nx := fun p hp => .tail _ (hsub p (.tail _ (.tail _ (hrest34 p hp))))
          clear F41 F40 Nj
          show wpAny _ _ _ _ _ _
          try k_fold
          k_steps
          refine Hold.mk ?_
          rename News _ _ _ _ => N42
          refine kda_in N42 (.tail _ hTn) j4 hlo (strKind_is _ _ _ _) tab.dots.isSome hdots ?_
          try dsimp only
          k_steps
          · rename (tab.dots.isSome = true) => hds
            refine Hold.mk ?_
            rename News _ _ _ _ => N43
            k_dflt (refine' attr_kind ?u6_1 ?u6_2 N43 hTi hrn ?_)
            case u6_1 => k_asm
            case u6_2 => k_asm
            intro t5 tk42
            cases t with
            | vec k =>
              dsimp only [kindS]
              k_steps
              exact LStep.next (by assumption) (by assumption) (.head _) ⟨rfl, rfl, rfl, cnt_ex (cntN_no (tab := tab) ht (by simp [hasDots, isDots])).symm, fun p hp => mem_offI.mpr ⟨.tail _ (hsub p hp), hI2 p (hsub p hp)⟩⟩
            | call us =>
              dsimp only [kindS]
              k_steps
              exact LStep.next (by assumption) (by assumption) (.head _) ⟨rfl, rfl, rfl, cnt_ex (cntN_no (tab := tab) ht (by simp [hasDots, isDots])).symm, fun p hp => mem_offI.mpr ⟨.tail _ (hsub p hp), hI2 p (hsub p hp)⟩⟩
            | sym x =>
              dsimp only [kindS]
              k_steps
              refine Hold.mk ?_
              rename News _ _ _ _ => N44
              k_dflt (refine' attr_name ?u7_1 ?u7_2 N44 hTi hrn ?_)
              case u7_1 => k_asm
              case u7_2 => k_asm
              intro t6 tk43
              try dsimp only
              k_steps
              · rename (x == Str.ofString "...") = true => hq
                have hq2 : x = dotsS := by simpa using hq
                exact LStep.next (by assumption) (by assumption) (.head _) ⟨rfl, rfl, rfl, cnt_ex (cntN_yes (tab := tab) ht (by simp [hasDots, isDots, hq2, hds])).symm, fun p hp => mem_offI.mpr ⟨.tail _ (hsub p hp), hI2 p (hsub p hp)⟩⟩
              · rename (x == Str.ofString "...") = false => hq
                have hq2 : ¬ x = dotsS := by simpa using hq
                exact LStep.next (by assumption) (by assumption) (.head _) ⟨rfl, rfl, rfl, cnt_ex (cntN_no (tab := tab) ht (by simp [hasDots, isDots, hq2])).symm, fun p hp => mem_offI.mpr ⟨.tail _ (hsub p hp), hI2 p (hsub p hp)⟩⟩
          · rename (tab.dots.isSome = false) => hds
            exact LStep.next (by assumption) (by assumption) (.head _) ⟨rfl, rfl, rfl, cnt_ex (cntN_no (tab := tab) ht (by simp [hasDots, hds])).symm, fun p hp => mem_offI.mpr ⟨.tail _ (hsub p hp), hI2 p (hsub p hp)⟩⟩
        case done3 =>
          rintro m1 nx h tk ⟨hm1, hm2, hm3, ⟨tcn, hm4⟩, hsub⟩ F41 N41
          have hcnt : cntN tab ts vi.length = ((substL tab ts).length : Nat) := by rw [cntN, hTs.length, List.take_length]
          rw [hcnt] at hm4
          have F42 := frSet F41 [(Str.ofString "told", _), (Str.ofString "count", _)] (fa2 hm1 hm4)
          have hrn : ∀ p ∈ rest3, p ∈ nx := fun p hp => hsub p (.tail _ (.tail _ (hrest34 p hp)))
          have hRc := hRb
          rw [subst] at hRc
          have hls := substL_length (tab := tab) (fun row hr => (j8.bound.row row hr).1) ts
          have hts3 : ts.length ≤ 3 := hOk.1
          clear F41 F40 Nj
          show wpAny _ _ _ _ _ _
          try k_fold
          k_steps
          refine Hold.mk ?_
          rename News _ _ _ _ => N42
          k_dflt (refine' attr_items ?u8_1 ?u8_2 N42 hRc hrn ?_)
          case u8_1 => k_asm
          case u8_2 => k_asm
          intro lj vj nj tkj hlj hTj
          have hvj := hTj.length
          try dsimp only
          k_steps
          refine Hold.mk ?_
          rename News _ _ _ _ => N43
          refine my_len N43 hlj (by omega) ?_
          rw [hvj]
          try dsimp only
          k_steps
          refine Hold.mk ?_
          rename News _ _ _ _ => N44
          k_dflt (refine' attr_tags ?u9_1 ?u9_2 N44 hRc hrn ?_)
          case u9_1 => k_asm
          case u9_2 => k_asm
          intro lk vk nk tkk hlk hvk
          try dsimp only
          k_steps
          refine Hold.mk ?_
          rename News _ _ _ _ => N45
          refine my_len N45 hlk (by omega) ?_
          rw [hvk]
          try dsimp only
          k_steps
  )
end Mine
theorem PySem.Challenge.cw_ov0039_01_holds : PySem.Challenge.rw_ov0039_01.Holds :=
  Mine.law_all
