import PyProof.Rows.All
import Wide.All
import OpenK.AllK
import Wide.FinOn
import PySem.Challenge.RW_pb0324_01
/- the law of nodes_of: each function of it is walked once, under a contract; plain lemmas of loops, of trees and of chains stand ahead -/
open PySem PySem.W PyProof.Rows PySem.Spec PySem.Calls
set_option Elab.async false
set_option maxRecDepth 100000
set_option compiler.extract_closed false
set_option maxHeartbeats 8000000
namespace Mine
open_top hd for PySem.Challenge.rw_pb0324_01
example : PySem.Challenge.rw_pb0324_01 = PySem.Challenge.rw_pb0324_01 ∧ hd.heap_39 = hd.heap_39 := by k_fill; exact ⟨rfl, rfl⟩
section
section
def RowIs (prog : Program) (w : World) (cells : List Int) (dc : Addr) (pl : Int) (od : Obj) : Prop :=
  ∃ (i : Int) (t1 t2 : Tok), 0 ≤ i ∧ i ≤ (cells.length : Int) ∧ od.IsDictOf (strKind prog w) [(Str.ofString "cells", .ref dc), (Str.ofString "at", .int i t1), (Str.ofString "place", .int pl t2)]
def CellsIn (news : List (Addr × Obj)) (dc : Addr) (cells : List Int) : Prop :=
  ∃ (cvs : List Value) (nc : Nat), (dc, W.listOf cvs.toArray nc) ∈ news ∧ IntsAre cvs cells ∧ cells.length ≤ 60 ∧ ∀ c ∈ cells, 0 ≤ c ∧ c < 60
theorem CellsIn.mono {news news' : List (Addr × Obj)} {dc : Addr} {cells : List Int} (h : CellsIn news dc cells) (hs : ∀ p ∈ news, p ∈ news') : CellsIn news' dc cells := by
  obtain ⟨cvs, nc, h1, h2⟩ := h
  exact ⟨cvs, nc, hs _ h1, h2⟩
section
variable {prog : Program} {w : World} {A : Around} {E : Value → Shared → Prop} {s : Shared} {h₀ : Heap} {L : Addr} {news : List (Addr × Obj)}
theorem my_len {l : Addr} {xs : List Value} {n : Nat} {Q : Value → Shared → Prop} (N : News h₀ L s.heap news) (hm : (l, W.listOf xs.toArray n) ∈ news) (hfit : xs.length < 2 ^ 62)
    (h : Q (.int (xs.length : Nat) (s.toks + 1)) { s with toks := s.toks + 1 + 1 }) : wpAny (model prog w) A (call (.builtin "len") [.ref l]) Q E s := by
  have e : xs.toArray.size = xs.length := by simp
  refine Calls.call_len_list (News.isList N hm) (by omega) ?_
  rw [e]
  exact h
theorem my_item {value slice : PySem.Expr} {l : Addr} {xs : List Value} {n : Nat} {k : Int} {u : Tok} {v : Value} {Q : Value → Shared → Prop} (N : News h₀ L s.heap news) (hm : (l, W.listOf xs.toArray n) ∈ news) (h0 : 0 ≤ k) (hhi : k < 2 ^ 63) (hx : xs[k.toNat]? = some v) (h : Q v s)
    (hs : subscripted slice false (.ref l) (.int k u) = operate [.ref l, .int k u] (getItem (.ref l) (.int k u)) := by with_unfolding_all rfl) :
    wpAny (model prog w) A (subscriptTail value slice (.ref l) (.int k u)) Q E s :=
  have hl := News.isList N hm
  tail_any hl.typeIs slot_list_getitem.lookup (wpAny_getItem_list hl h0 hhi (by simpa using hx) h) hs

variable {m : Str → Option Value} {news' : List (Addr × Obj)}
theorem my_append {D : Addr} {xs : List Value} {n : Nat} {x : Value} {Q : Value → Shared → Prop} (F : Fr h₀ L s.heap m) (N : News h₀ L s.heap news) (U : Upd D (W.listOf xs.toArray n) (W.listOf (xs ++ [x]).toArray (n + 1)) news news')
    (hsz : xs.length ≤ 1000) (h : ∀ h', Fr h₀ L h' m → News h₀ L h' news' → Q .none { s with heap := h' }) : wpAny (model prog w) A (call (.builtin "list.append") [.ref D, x]) Q E s := by
  have e : xs.toArray.push x = (xs ++ [x]).toArray := by simp
  refine append_K F N (its := xs.toArray) (x := x) (by rw [e]; exact U) h ?_
  rw [sizeLine_eq, List.size_toArray]; omega
theorem my_pop {D : Addr} {xs : List Value} {n : Nat} {y : Value} {Q : Value → Shared → Prop} (F : Fr h₀ L s.heap m) (N : News h₀ L s.heap news) (U : Upd D (W.listOf (xs ++ [y]).toArray n) (W.listOf xs.toArray (n + 1)) news news')
    (hsz : xs.length ≤ 1000) (h : ∀ h', Fr h₀ L h' m → News h₀ L h' news' → Q y { s with heap := h' }) : wpAny (model prog w) A (call (.builtin "list.pop") [.ref D]) Q E s := by
  refine kl_pop F N (p := xs) (y := y) (by simpa using kpa_last y xs) U ?_ h
  rw [sizeLine_eq]; simp; omega
end
section
variable {prog : Program} {w : World} {A : Around} {E : Value → Shared → Prop} {s : Shared} {env : Env} {h₀ : Heap} {x : Str} {body : List Stmt} {Q : Flow → Shared → Prop}
theorem unrPost_mono {L : Addr} {s₁ s₂ : Shared} {I : Addr} {it : Obj} {r1 r2 : (Str → Option Value) → List (Addr × Obj) → Prop} {f : Flow} (hr : ∀ m n, r1 m n → r2 m n) (h : UnrPost h₀ L s₁ I it r1 Q f s₂) : UnrPost h₀ L s₁ I it r2 Q f s₂ := by
  have e : UnrEnd h₀ L s₁ I it r1 s₂ → UnrEnd h₀ L s₁ I it r2 s₂ := by
    rintro ⟨h', tk, m', news', e, F', N', ho, r⟩
    exact ⟨h', tk, m', news', e, F', N', ho, hr _ _ r⟩
  cases f with
  | ret v => exact h
  | brk => exact h
  | next => exact e h
  | cont => exact e h
/-- what stands between two turns -/
def LpS {σ β : Type} (Led : σ → List (Addr × Obj)) (ps : σ → List (Str × Value)) (x : Str) (stored : List Str) (m₀ : Str → Option Value) (P : β → σ → Prop) (r : β) (m : Str → Option Value) (nx : List (Addr × Obj)) : Prop :=
  ∃ c : σ, nx = Led c ∧ (∀ p ∈ ps c, m p.1 = some p.2) ∧ (∀ z, z ≠ x → (∀ p ∈ ps c, z ≠ p.1) → stored.contains z = false → m z = m₀ z) ∧ P r c
theorem rev_S {σ : Type} {I : Addr} {lp : Addr × Obj} {m₀ : Str → Option Value} (Led : σ → List (Addr × Obj)) (ps : σ → List (Str × Value)) (stored : List Str) (P : List Value → σ → Prop)
    (step : ∀ v r c (u : Str → Option Value) it h tk, P (v :: r) c → it.cls = .type "list_reverseiterator" → Fr h₀ env.locals h (fun y => if y = x then some v else kstB (fun z => if stored.contains z then u z else m₀ z) (ps c) y) → News h₀ env.locals h ((I, it) :: Led c) →
      wpAny (model prog w) A (execs body env) (UnrPost h₀ env.locals { s with heap := h, toks := tk } I it (fun m' n' => lp ∈ n' ∧ LpS Led ps x stored m₀ P r m' n') Q) E { s with heap := h, toks := tk })
    (done : ∀ c (u : Str → Option Value) h tk, P [] c → Fr h₀ env.locals h (fun y => if y = x then u y else kstB (fun z => if stored.contains z then u z else m₀ z) (ps c) y) → News h₀ env.locals h (Led c) → Q .next { s with heap := h, toks := tk }) :
    ∀ r m nx, LpS Led ps x stored m₀ P r m nx → RevRest prog w A E h₀ env x body Q s I lp r m nx := by
  intro r
  induction r with
  | nil =>
    rintro m nx ⟨c, rfl, h1, h2, hp⟩ h tk F N
    exact done c m h tk hp (kst_frOut h1 h2 F) N
  | cons v r ih =>
    rintro m nx ⟨c, rfl, h1, h2, hp⟩ it h tk hit F N
    exact wpAny_mono (step v r c m it h tk hp hit (kst_fr h1 h2 F) N) (fun f s₂ p => unrPost_mono (fun m n q => ⟨q.1, ih m n q.2⟩) p) fun _ _ e => e
theorem list_S {σ : Type} {I : Addr} {lp : Addr × Obj} {m₀ : Str → Option Value} (Led : σ → List (Addr × Obj)) (ps : σ → List (Str × Value)) (stored : List Str) (P : List Value → σ → Prop)
    (step : ∀ v r c (u : Str → Option Value) it h tk, P (v :: r) c → it.cls = .type "list_iterator" → Fr h₀ env.locals h (fun y => if y = x then some v else kstB (fun z => if stored.contains z then u z else m₀ z) (ps c) y) → News h₀ env.locals h ((I, it) :: Led c) →
      wpAny (model prog w) A (execs body env) (UnrPost h₀ env.locals { s with heap := h, toks := tk } I it (fun m' n' => lp ∈ n' ∧ LpS Led ps x stored m₀ P r m' n') Q) E { s with heap := h, toks := tk })
    (done : ∀ c (u : Str → Option Value) h tk, P [] c → Fr h₀ env.locals h (fun y => if y = x then u y else kstB (fun z => if stored.contains z then u z else m₀ z) (ps c) y) → News h₀ env.locals h (Led c) → Q .next { s with heap := h, toks := tk }) :
    ∀ r m nx, LpS Led ps x stored m₀ P r m nx → ListRest prog w A E h₀ env x body Q s I lp r m nx := by
  intro r
  induction r with
  | nil =>
    rintro m nx ⟨c, rfl, h1, h2, hp⟩ h tk F N
    exact done c m h tk hp (kst_frOut h1 h2 F) N
  | cons v r ih =>
    rintro m nx ⟨c, rfl, h1, h2, hp⟩ it h tk hit F N
    exact wpAny_mono (step v r c m it h tk hp hit (kst_fr h1 h2 F) N) (fun f s₂ p => unrPost_mono (fun m n q => ⟨q.1, ih m n q.2⟩) p) fun _ _ e => e
theorem range_S {σ : Type} {I : Addr} {a : Int} {n : Nat} {m₀ : Str → Option Value} (Led : σ → List (Addr × Obj)) (ps : σ → List (Str × Value)) (stored : List Str) (P : Nat → σ → Prop)
    (step : ∀ k i c (u : Str → Option Value) t h tk, k + 1 + i = n → P (k + 1) c → Fr h₀ env.locals h (fun y => if y = x then some (.int (a + (i : Int)) t) else kstB (fun z => if stored.contains z then u z else m₀ z) (ps c) y) → News h₀ env.locals h ((I, itR (a + ((i + 1 : Nat) : Int)) ((n : Int) - ((i + 1 : Nat) : Int))) :: Led c) →
      wpAny (model prog w) A (execs body env) (UnrPost h₀ env.locals { s with heap := h, toks := tk } I (itR (a + ((i + 1 : Nat) : Int)) ((n : Int) - ((i + 1 : Nat) : Int))) (LpS Led ps x stored m₀ P k) Q) E { s with heap := h, toks := tk })
    (done : ∀ c (u : Str → Option Value) h tk, P 0 c → Fr h₀ env.locals h (fun y => if y = x then u y else kstB (fun z => if stored.contains z then u z else m₀ z) (ps c) y) → News h₀ env.locals h (Led c) → Q .next { s with heap := h, toks := tk }) :
    ∀ k i m nx, k + i = n → LpS Led ps x stored m₀ P k m nx → RangeRest prog w A E h₀ env x body Q s I a n k i m nx := by
  intro k
  induction k with
  | zero =>
    rintro i m nx _ ⟨c, rfl, h1, h2, hp⟩ h tk F N
    exact done c m h tk hp (kst_frOut h1 h2 F) N
  | succ k ih =>
    rintro i m nx hk ⟨c, rfl, h1, h2, hp⟩ t h tk F N
    exact wpAny_mono (step k i c m t h tk hk hp (kst_fr h1 h2 F) N) (fun f s₂ p => unrPost_mono (fun m n q => ih (i + 1) m n (by omega) q) p) fun _ _ e => e

def WhEnd (h₀ : Heap) (L : Addr) (s : Shared) (R : (Str → Option Value) → List (Addr × Obj) → Prop) (s₃ : Shared) : Prop :=
  ∃ h' tk m' news', s₃ = { s with heap := h', toks := tk } ∧ Fr h₀ L h' m' ∧ News h₀ L h' news' ∧ R m' news'
def WhPost (h₀ : Heap) (L : Addr) (s : Shared) (R : (Str → Option Value) → List (Addr × Obj) → Prop) (Q : Flow → Shared → Prop) (f : Flow) (s₃ : Shared) : Prop :=
  match f with
  | .ret v => Q (.ret v) s₃
  | .brk => Q .next s₃
  | _ => WhEnd h₀ L s R s₃
theorem WhEnd.intro {L : Addr} {R : (Str → Option Value) → List (Addr × Obj) → Prop} {m' : Str → Option Value} {all : List (Addr × Obj)} {h' : Heap} {tk : Nat} (F : Fr h₀ L h' m') (N : News h₀ L h' all) (nx : List (Addr × Obj)) (sub : ∀ p ∈ nx, p ∈ all) (r : R m' nx) :
    WhEnd h₀ L s R { s with heap := h', toks := tk } := ⟨h', tk, m', nx, rfl, F, fun p hp => N p (sub p hp), r⟩
theorem while_S {σ : Type} {L : Addr} {test : PySem.Expr} {pos : Pos} {m₀ : Str → Option Value} (Led : σ → List (Addr × Obj)) (ps : σ → List (Str × Value)) (x : Str) (stored : List Str) (P : Nat → σ → Prop) (n₀ : Nat) (c₀ : σ)
    (F : Fr h₀ L s.heap m₀) (N : News h₀ L s.heap (Led c₀)) (h1 : ∀ p ∈ ps c₀, m₀ p.1 = some p.2) (hp : P n₀ c₀)
    (turn : ∀ n c (u : Str → Option Value) h tk, P n c → Fr h₀ L h (fun y => if y = x then u y else kstB (fun z => if stored.contains z then u z else m₀ z) (ps c) y) → News h₀ L h (Led c) →
      wpAny (model prog w) A (isTrue test env (eval test env)) (fun b s₂ =>
        if b = true then wpAny (model prog w) A (execs body env) (WhPost h₀ L s (fun m' nx => ∃ n', n' < n ∧ LpS Led ps x stored m₀ P n' m' nx) Q) E s₂ else Q .next s₂) E { s with heap := h, toks := tk })
    (hE : PassesOwn (model prog w) A env E := by passes_own) :
    wpAny (model prog w) A (exec (.While test body [] pos) env) Q E s := by
  refine While_inv2 (fun n m nx => LpS Led ps x stored m₀ P n m nx) (n₀ := n₀) F N ⟨c₀, rfl, h1, fun _ _ _ _ => rfl, hp⟩ ?_ hE
  rintro n m₁ nx h tk F₁ N₁ ⟨c, rfl, h1, h2, hp⟩
  refine wpAny_mono (turn n c m₁ h tk hp (kst_frOut h1 h2 F₁) N₁) (fun b s₂ p => ?_) fun _ _ x => x
  cases b with
  | false => exact p
  | true =>
    simp only [if_true] at p ⊢
    refine wpAny_mono p (fun f s₃ q => ?_) fun _ _ x => x
    cases f with
    | ret v => exact q
    | brk => exact q
    | next =>
      obtain ⟨h', tk', m', news', rfl, F', N', n', hn, hl⟩ := q
      exact ⟨h', tk', m', news', n', rfl, F', N', hn, hl⟩
    | cont =>
      obtain ⟨h', tk', m', news', rfl, F', N', n', hn, hl⟩ := q
      exact ⟨h', tk', m', news', n', rfl, F', N', hn, hl⟩
end
section
variable {h₀ h : Heap} {L : Addr} {a b c d e f g x : Addr × Obj} {r : List (Addr × Obj)}
theorem news_up1 (N : News h₀ L h (a :: x :: r)) : News h₀ L h (x :: a :: r) := fun p hp => N p (by simp only [List.mem_cons] at hp ⊢; rcases hp with h | h | h <;> simp [h])
theorem news_up2 (N : News h₀ L h (a :: b :: x :: r)) : News h₀ L h (x :: a :: b :: r) := fun p hp => N p (by simp only [List.mem_cons] at hp ⊢; rcases hp with h | h | h | h <;> simp [h])
theorem news_up3 (N : News h₀ L h (a :: b :: c :: x :: r)) : News h₀ L h (x :: a :: b :: c :: r) := fun p hp => N p (by simp only [List.mem_cons] at hp ⊢; rcases hp with h | h | h | h | h <;> simp [h])
theorem news_up4 (N : News h₀ L h (a :: b :: c :: d :: x :: r)) : News h₀ L h (x :: a :: b :: c :: d :: r) := fun p hp => N p (by simp only [List.mem_cons] at hp ⊢; rcases hp with h | h | h | h | h | h <;> simp [h])
theorem news_up5 (N : News h₀ L h (a :: b :: c :: d :: e :: x :: r)) : News h₀ L h (x :: a :: b :: c :: d :: e :: r) := fun p hp => N p (by simp only [List.mem_cons] at hp ⊢; rcases hp with h | h | h | h | h | h | h <;> simp [h])
theorem news_up6 (N : News h₀ L h (a :: b :: c :: d :: e :: f :: x :: r)) : News h₀ L h (x :: a :: b :: c :: d :: e :: f :: r) := fun p hp => N p (by simp only [List.mem_cons] at hp ⊢; rcases hp with h | h | h | h | h | h | h | h <;> simp [h])
theorem menu5 {a b c d e : Str} {t1 t2 t3 t4 t5 : Tok} {r : Int} (h0 : 0 ≤ r) (h1 : r < 5) : ∃ op t, [Value.str a t1, .str b t2, .str c t3, .str d t4, .str e t5][r.toNat]? = some (.str op t) := by
  have h : r.toNat < 5 := by omega
  match r.toNat, h with
  | 0, _ => exact ⟨_, _, rfl⟩
  | 1, _ => exact ⟨_, _, rfl⟩
  | 2, _ => exact ⟨_, _, rfl⟩
  | 3, _ => exact ⟨_, _, rfl⟩
  | 4, _ => exact ⟨_, _, rfl⟩
theorem menu4 {a b c d : Str} {t1 t2 t3 t4 : Tok} {r : Int} (h0 : 0 ≤ r) (h1 : r < 4) : ∃ op t, [Value.str a t1, .str b t2, .str c t3, .str d t4][r.toNat]? = some (.str op t) ∧ (op = a ∨ op = b ∨ op = c ∨ op = d) := by
  have h : r.toNat < 4 := by omega
  match r.toNat, h with
  | 0, _ => exact ⟨_, _, rfl, .inl rfl⟩
  | 1, _ => exact ⟨_, _, rfl, .inr (.inl rfl)⟩
  | 2, _ => exact ⟨_, _, rfl, .inr (.inr (.inl rfl))⟩
  | 3, _ => exact ⟨_, _, rfl, .inr (.inr (.inr rfl))⟩
end
section
variable {prog : Program} {w : World} {A : Around} {E : Value → Shared → Prop} {s : Shared} {h₀ : Heap} {L : Addr} {news : List (Addr × Obj)}
theorem item5 {value slice : PySem.Expr} {l : Addr} {n : Nat} {k : Int} {u : Tok} {Q : Value → Shared → Prop} {a b c d e : Str} {t1 t2 t3 t4 t5 : Tok} (N : News h₀ L s.heap news) (hm : (l, W.listOf #[Value.str a t1, .str b t2, .str c t3, .str d t4, .str e t5] n) ∈ news) (h0 : 0 ≤ k) (h1 : k < 5) (h : ∀ op t, Q (.str op t) s)
    (hs : subscripted slice false (.ref l) (.int k u) = operate [.ref l, .int k u] (getItem (.ref l) (.int k u)) := by with_unfolding_all rfl) :
    wpAny (model prog w) A (subscriptTail value slice (.ref l) (.int k u)) Q E s := by
  obtain ⟨op, t, e⟩ := menu5 (a := a) (b := b) (c := c) (d := d) (e := e) (t1 := t1) (t2 := t2) (t3 := t3) (t4 := t4) (t5 := t5) h0 h1
  exact my_item N hm h0 (by omega) e (h op t) hs
theorem item4 {value slice : PySem.Expr} {l : Addr} {n : Nat} {k : Int} {u : Tok} {Q : Value → Shared → Prop} {a b c d : Str} {t1 t2 t3 t4 : Tok} (N : News h₀ L s.heap news) (hm : (l, W.listOf #[Value.str a t1, .str b t2, .str c t3, .str d t4] n) ∈ news) (h0 : 0 ≤ k) (h1 : k < 4) (h : ∀ op t, (op = a ∨ op = b ∨ op = c ∨ op = d) → Q (.str op t) s)
    (hs : subscripted slice false (.ref l) (.int k u) = operate [.ref l, .int k u] (getItem (.ref l) (.int k u)) := by with_unfolding_all rfl) :
    wpAny (model prog w) A (subscriptTail value slice (.ref l) (.int k u)) Q E s := by
  obtain ⟨op, t, e, ho⟩ := menu4 (a := a) (b := b) (c := c) (d := d) (t1 := t1) (t2 := t2) (t3 := t3) (t4 := t4) h0 h1
  exact my_item N hm h0 (by omega) e (h op t ho) hs
end
end
section
def Halt (P : Prop) : Prop := P
theorem halt {P : Prop} (h : Halt P) : P := h
structure Nd where
  x : Addr
  op : Str
  pl : Int
def Nd.ref (d : Nd) : Value := .ref d.x
/-- an object of the class Node, its fields as they are read -/
def NodeAt (news : List (Addr × Obj)) (x : Addr) (op : Str) (pl : Int) (ka : Addr) (val : Value) : Prop :=
  ∃ (dx : Addr) (es : List DictEntry) (n : Nat) (t1 t2 : Tok), (x, instObj 32 dx) ∈ news ∧ (dx, dictOf es n) ∈ news ∧ getL (Str.ofString "op") es = some (some (.str op t1)) ∧ getL (Str.ofString "place") es = some (some (.int pl t2)) ∧
    getL (Str.ofString "kids") es = some (some (.ref ka)) ∧ getL (Str.ofString "value") es = some (some val)
theorem NodeAt.mono {news news' : List (Addr × Obj)} {x : Addr} {op : Str} {pl : Int} {ka : Addr} {val : Value} (h : NodeAt news x op pl ka val) (hs : ∀ p ∈ news, p ∈ news') : NodeAt news' x op pl ka val := by
  obtain ⟨dx, es, n, t1, t2, h1, h2, h3⟩ := h
  exact ⟨dx, es, n, t1, t2, hs _ h1, hs _ h2, h3⟩
/-- the trees that stand at the values, and all their nodes, each before its kids -/
inductive Fo (news : List (Addr × Obj)) : List Value → List Nd → Prop
  | nil : Fo news [] []
  | node {x : Addr} {op : Str} {pl : Int} {ka : Addr} {val : Value} {kids : List Value} {nk : Nat} {ns1 : List Nd} {vs : List Value} {ns2 : List Nd} :
      NodeAt news x op pl ka val → (ka, W.listOf kids.toArray nk) ∈ news → Fo news (kids.filter (fun v => decide (v ≠ .none))) ns1 → Fo news vs ns2 → Fo news (.ref x :: vs) (⟨x, op, pl⟩ :: (ns1 ++ ns2))
theorem Fo.mono {news news' : List (Addr × Obj)} {vs : List Value} {ns : List Nd} (h : Fo news vs ns) (hs : ∀ p ∈ news, p ∈ news') : Fo news' vs ns := by
  induction h with
  | nil => exact .nil
  | node h1 h2 _ _ ih1 ih2 => exact .node (h1.mono hs) (hs _ h2) ih1 ih2
theorem Fo.append {news : List (Addr × Obj)} {vs ws : List Value} {ns ms : List Nd} (h : Fo news vs ns) (k : Fo news ws ms) : Fo news (vs ++ ws) (ns ++ ms) := by
  induction h with
  | nil => exact k
  | node h1 h2 h3 _ _ ih2 =>
    rw [List.cons_append, List.cons_append, List.append_assoc]
    exact .node h1 h2 h3 ih2
theorem Fo.refs {news : List (Addr × Obj)} {vs : List Value} {ns : List Nd} (h : Fo news vs ns) : ∀ v ∈ vs, ∃ a, v = .ref a := by
  induction h with
  | nil => exact fun _ h => nomatch h
  | node _ _ _ _ _ ih2 =>
    intro v hv
    rcases List.mem_cons.mp hv with rfl | hv
    · exact ⟨_, rfl⟩
    · exact ih2 v hv
theorem Fo.len {news : List (Addr × Obj)} {vs : List Value} {ns : List Nd} (h : Fo news vs ns) : vs.length ≤ ns.length := by
  induction h with
  | nil => exact Nat.le_refl _
  | node _ _ _ _ _ ih2 => simp only [List.length_cons, List.length_append]; omega

structure NSt where
  done : List Nd
  rest : List Nd
  ws : List Value
  nw : Nat
  nf : Nat
def NSt.led (wa fa : Addr) (news : List (Addr × Obj)) (c : NSt) : List (Addr × Obj) := (wa, W.listOf c.ws.toArray c.nw) :: (fa, W.listOf (c.done.map Nd.ref).toArray c.nf) :: news
section
variable {prog : Program} {w : World} {A : Around} {E : Value → Shared → Prop} {s : Shared} {env : Env} {h₀ : Heap} {body : List Stmt} {Q : Flow → Shared → Prop}
theorem nodes_loop {L : Addr} {test : PySem.Expr} {pos : Pos} {m₀ : Str → Option Value} {wa fa : Addr} {nw nf : Nat} {ws : List Value} {ns : List Nd} {news : List (Addr × Obj)} (x : Str) (stored : List Str)
    (F : Fr h₀ L s.heap m₀) (N : News h₀ L s.heap ((wa, W.listOf ws.toArray nw) :: (fa, W.listOf #[] nf) :: news)) (hfo : Fo news ws.reverse ns)
    (stop : ∀ nw nf (u : Str → Option Value) h tk, Fr h₀ L h (fun y => if y = x then u y else if stored.contains y then u y else m₀ y) → News h₀ L h ((wa, W.listOf ([] : List Value).toArray nw) :: (fa, W.listOf (ns.map Nd.ref).toArray nf) :: news) →
      wpAny (model prog w) A (isTrue test env (eval test env)) (fun b s₂ =>
        if b = true then False else Q .next s₂) E { s with heap := h, toks := tk })
    (go : ∀ (done : List Nd) (x' : Addr) (op : Str) (pl : Int) (ka : Addr) (val : Value) (kids : List Value) (nk : Nat) (ns1 : List Nd) (vs : List Value) (ns2 : List Nd) nw nf (u : Str → Option Value) h tk, NodeAt news x' op pl ka val → (ka, W.listOf kids.toArray nk) ∈ news → Fo news (kids.filter (fun v => decide (v ≠ .none))) ns1 → Fo news vs ns2 → ns = done ++ (⟨x', op, pl⟩ :: (ns1 ++ ns2)) →
      Fr h₀ L h (fun y => if y = x then u y else if stored.contains y then u y else m₀ y) → News h₀ L h ((wa, W.listOf (vs.reverse ++ [Value.ref x']).toArray nw) :: (fa, W.listOf (done.map Nd.ref).toArray nf) :: news) →
      wpAny (model prog w) A (isTrue test env (eval test env)) (fun b s₂ =>
        if b = true then wpAny (model prog w) A (execs body env) (WhPost h₀ L s (fun m' nx => (∃ (nw' nf' : Nat) (ws' : List Value), nx = (wa, W.listOf ws'.toArray nw') :: (fa, W.listOf ((done ++ [(⟨x', op, pl⟩ : Nd)]).map Nd.ref).toArray nf') :: news ∧ Fo news ws'.reverse (ns1 ++ ns2)) ∧ ∀ z, z ≠ x → stored.contains z = false → m' z = m₀ z) Q) E s₂ else False) E { s with heap := h, toks := tk })
    (hE : PassesOwn (model prog w) A env E := by passes_own) :
    wpAny (model prog w) A (exec (.While test body [] pos) env) Q E s := by
  refine while_S (NSt.led wa fa news) (fun _ => []) x stored (fun n c => n = c.rest.length ∧ Fo news c.ws.reverse c.rest ∧ ns = c.done ++ c.rest) ns.length ⟨[], ns, ws, nw, nf⟩ F N (fun _ h => nomatch h) ⟨rfl, hfo, rfl⟩ ?_ hE
  rintro n ⟨done, rest, ws₁, nw₁, nf₁⟩ u h tk ⟨hn, hf, hns⟩ F₁ N₁
  dsimp only at hn hf hns
  unfold NSt.led at N₁
  dsimp only at N₁
  generalize hr : ws₁.reverse = rv at hf
  have hw : ws₁ = rv.reverse := by rw [← hr, List.reverse_reverse]
  subst hw
  cases hf with
  | nil =>
    rw [List.append_nil] at hns
    subst hns
    refine wpAny_mono (stop _ _ u h tk F₁ N₁) (fun b s₂ q => ?_) fun _ _ e => e
    cases b with
    | true => exact (by simpa using q : False).elim
    | false => simpa using q
  | @node x' op pl ka val kids nk ns1 vs ns2 hN hk h1 h2 =>
    rw [List.reverse_cons] at N₁
    refine wpAny_mono (go done x' op pl ka val kids nk ns1 vs ns2 _ _ u h tk hN hk h1 h2 hns F₁ N₁) (fun b s₂ q => ?_) fun _ _ e => e
    cases b with
    | false => exact (by simpa using q : False).elim
    | true =>
      simp only [if_true] at q ⊢
      refine wpAny_mono q (fun f s₃ q => ?_) fun _ _ e => e
      have fin : WhEnd h₀ L s (fun m' nx => (∃ (nw' nf' : Nat) (ws' : List Value), nx = (wa, W.listOf ws'.toArray nw') :: (fa, W.listOf ((done ++ [(⟨x', op, pl⟩ : Nd)]).map Nd.ref).toArray nf') :: news ∧ Fo news ws'.reverse (ns1 ++ ns2)) ∧ ∀ z, z ≠ x → stored.contains z = false → m' z = m₀ z) s₃ →
          WhEnd h₀ L s (fun m' nx => ∃ n', n' < n ∧ LpS (NSt.led wa fa news) (fun _ => []) x stored m₀ (fun n c => n = c.rest.length ∧ Fo news c.ws.reverse c.rest ∧ ns = c.done ++ c.rest) n' m' nx) s₃ := by
        rintro ⟨h', tk', m', news', e, F', N', ⟨nw', nf', ws', rfl, hf'⟩, hm'⟩
        refine ⟨h', tk', m', _, e, F', N', (ns1 ++ ns2).length, ?_, ⟨done ++ [⟨x', op, pl⟩], ns1 ++ ns2, ws', nw', nf'⟩, rfl, (fun _ h => nomatch h), fun z hz _ hs => hm' z hz hs, rfl, hf', ?_⟩
        · rw [hn]; simp
        · rw [hns]; simp
      cases f with
      | ret v => exact q
      | brk => exact q
      | next => exact fin q
      | cont => exact fin q

theorem offI_of {I : Addr} {it : Obj} : ∀ {l : List (Addr × Obj)}, (∀ p ∈ l, p.1 ≠ I) → OffI I it l
  | [], _ => trivial
  | p :: _, h => ⟨.inl (h p (.head _)), offI_of fun q hq => h q (.tail _ hq)⟩
theorem kids_loop {x : Str} {I ka wa : Addr} {kids b : List Value} {nk nw : Nat} {m₀ : Str → Option Value} {tail : List (Addr × Obj)} (hh : A.handled = none) (F : Fr h₀ env.locals s.heap m₀)
    (N : News h₀ env.locals s.heap ((I, revObj ka ((kids.length : Int) - 1)) :: (wa, W.listOf b.toArray nw) :: tail)) (hI : ∀ p ∈ (wa, W.listOf b.toArray nw) :: tail, p.1 < I) (hka : (ka, W.listOf kids.toArray nk) ∈ tail)
    (hrefs : ∀ v ∈ kids, v = .none ∨ ∃ a, v = .ref a)
    (skip : ∀ (acc : List Value) nw it h tk, it.cls = .type "list_reverseiterator" → Fr h₀ env.locals h (fun y => if y = x then some .none else m₀ y) → News h₀ env.locals h ((I, it) :: (wa, W.listOf (b ++ acc).toArray nw) :: tail) →
      wpAny (model prog w) A (execs body env) (UnrPost h₀ env.locals { s with heap := h, toks := tk } I it (fun m' n' => (∃ nw' : Nat, n' = (wa, W.listOf (b ++ acc).toArray nw') :: tail) ∧ ∀ z, z ≠ x → m' z = m₀ z) Q) E { s with heap := h, toks := tk })
    (push : ∀ (a : Addr) (acc : List Value) nw it h tk, acc.length + 1 ≤ (kids.filter (fun v => decide (v ≠ .none))).length → it.cls = .type "list_reverseiterator" → Fr h₀ env.locals h (fun y => if y = x then some (.ref a) else m₀ y) → News h₀ env.locals h ((I, it) :: (wa, W.listOf (b ++ acc).toArray nw) :: tail) →
      wpAny (model prog w) A (execs body env) (UnrPost h₀ env.locals { s with heap := h, toks := tk } I it (fun m' n' => (∃ nw' : Nat, n' = (wa, W.listOf (b ++ acc ++ [Value.ref a]).toArray nw') :: tail) ∧ ∀ z, z ≠ x → m' z = m₀ z) Q) E { s with heap := h, toks := tk })
    (done : ∀ nw (u : Str → Option Value) h tk, Fr h₀ env.locals h (fun y => if y = x then u y else m₀ y) → News h₀ env.locals h ((wa, W.listOf (b ++ (kids.filter (fun v => decide (v ≠ .none))).reverse).toArray nw) :: tail) → Q .next { s with heap := h, toks := tk }) :
    wpAny (model prog w) A (pyIter (.ref I)) (fun it s₂ => LoopAtV prog w A h₀ env x body Q E it s₂) E s := by
  refine iter_revUnr (lo := W.listOf kids.toArray nk) (vs := kids) hh F N (offI_of fun p hp => Nat.ne_of_lt (hI p hp)) (List.mem_cons_of_mem _ hka) rfl rfl ?_
  refine rev_S (σ := List Value × Nat) (fun c => (wa, W.listOf (b ++ c.1).toArray c.2) :: tail) (fun _ => []) [] (fun r c => (∀ v ∈ r, v = .none ∨ ∃ a, v = .ref a) ∧ c.1 ++ r.filter (fun v => decide (v ≠ .none)) = (kids.filter (fun v => decide (v ≠ .none))).reverse) ?_ ?_ _ _ _
    ⟨([], nw), by simp, (fun _ h => nomatch h), (fun _ _ _ _ => rfl), fun v hv => hrefs v (by simpa using hv), by simp⟩
  · rintro v r ⟨acc, nw₁⟩ u it h tk ⟨hr, hacc⟩ hit F' N'
    dsimp only at hacc
    have F2 : Fr h₀ env.locals h (fun y => if y = x then some v else m₀ y) := by simpa [kstB] using F'
    rcases hr v (.head _) with rfl | ⟨a, rfl⟩
    · refine wpAny_mono (skip acc nw₁ it h tk hit F2 N') (fun f s₂ p => unrPost_mono ?_ p) fun _ _ e => e
      rintro m n ⟨⟨nw', rfl⟩, hm⟩
      exact ⟨List.mem_cons_of_mem _ hka, (acc, nw'), rfl, (fun _ h => nomatch h), fun z hz _ _ => hm z hz, fun v hv => hr v (.tail _ hv), by simpa using hacc⟩
    · have hl := congrArg List.length hacc
      refine wpAny_mono (push a acc nw₁ it h tk ?_ hit F2 N') (fun f s₂ p => unrPost_mono ?_ p) fun _ _ e => e
      · simp only [List.length_append, List.length_reverse] at hl
        rw [List.filter_cons_of_pos (by simp)] at hl
        simp only [List.length_cons] at hl
        omega
      · rintro m n ⟨⟨nw', rfl⟩, hm⟩
        refine ⟨List.mem_cons_of_mem _ hka, (acc ++ [.ref a], nw'), by simp, (fun _ h => nomatch h), fun z hz _ _ => hm z hz, fun v hv => hr v (.tail _ hv), ?_⟩
        rw [← hacc, List.filter_cons_of_pos (by simp)]
        simp
  · rintro ⟨acc, nw₁⟩ u h tk ⟨_, hacc⟩ F' N'
    dsimp only at hacc N'
    rw [List.filter_nil, List.append_nil] at hacc
    rw [hacc] at N'
    exact done nw₁ u h tk (by simpa [kstB] using F') N'

theorem kids_end {x : Str} {L I wa : Addr} {it : Obj} {X : List Value} {o : Obj} {nw : Nat} {tail : List (Addr × Obj)} {m₀ m' : Str → Option Value} {s₁ : Shared} {h' : Heap} {tk : Nat} (F : Fr h₀ L h' m') (N : News h₀ L h' ((I, it) :: (wa, W.listOf X.toArray nw) :: tail)) (hI : ∀ p ∈ (wa, o) :: tail, p.1 < I)
    (hm : ∀ z, z ≠ x → m' z = m₀ z) : UnrEnd h₀ L s₁ I it (fun m' n' => (∃ nw' : Nat, n' = (wa, W.listOf X.toArray nw') :: tail) ∧ ∀ z, z ≠ x → m' z = m₀ z) { s₁ with heap := h', toks := tk } := by
  refine UnrEnd.intro F N _ (fun p hp => hp) (fun p hp => ?_) ⟨⟨_, rfl⟩, hm⟩
  rcases List.mem_cons.mp hp with rfl | hp
  · exact Nat.ne_of_lt (hI (wa, o) (.head _))
  · exact Nat.ne_of_lt (hI p (.tail _ hp))

theorem Fo.at {news : List (Addr × Obj)} {vs : List Value} {ns : List Nd} (h : Fo news vs ns) : ∀ d ∈ ns, ∃ ka val, NodeAt news d.x d.op d.pl ka val := by
  induction h with
  | nil => exact fun _ h => nomatch h
  | node h1 _ _ _ ih1 ih2 =>
    intro d hd
    rcases List.mem_cons.mp hd with rfl | hd
    · exact ⟨_, _, h1⟩
    · rcases List.mem_append.mp hd with hd | hd
      · exact ih1 d hd
      · exact ih2 d hd
theorem nds_loop {x : Str} {fa : Addr} {nf : Nat} {ns : List Nd} {m₀ : Str → Option Value} {news : List (Addr × Obj)} (P : List Nd → Prop) (hh : A.handled = none) (F : Fr h₀ env.locals s.heap m₀)
    (N : News h₀ env.locals s.heap ((fa, W.listOf (ns.map Nd.ref).toArray nf) :: news)) (hp : P [])
    (turn : ∀ (pre : List Nd) (d : Nd) (post : List Nd) it I h tk, ns = pre ++ d :: post → P pre → (∀ p ∈ (fa, W.listOf (ns.map Nd.ref).toArray nf) :: news, p.1 < I) → Fr h₀ env.locals h (fun y => if y = x then some (.ref d.x) else m₀ y) →
      News h₀ env.locals h ((I, it) :: (fa, W.listOf (ns.map Nd.ref).toArray nf) :: news) →
      wpAny (model prog w) A (execs body env) (UnrPost h₀ env.locals { s with heap := h, toks := tk } I it (fun m' n' => (n' = (fa, W.listOf (ns.map Nd.ref).toArray nf) :: news ∧ P (pre ++ [d])) ∧ ∀ z, z ≠ x → m' z = m₀ z) Q) E { s with heap := h, toks := tk })
    (done : ∀ (u : Str → Option Value) h tk, P ns → Fr h₀ env.locals h (fun y => if y = x then u y else m₀ y) → News h₀ env.locals h ((fa, W.listOf (ns.map Nd.ref).toArray nf) :: news) → Q .next { s with heap := h, toks := tk }) :
    wpAny (model prog w) A (pyIter (.ref fa)) (fun it s₂ => LoopAtV prog w A h₀ env x body Q E it s₂) E s := by
  refine iter_listUnr (lo := W.listOf (ns.map Nd.ref).toArray nf) (vs := ns.map Nd.ref) hh F N List.mem_cons_self rfl rfl ?_
  intro I hI
  refine list_S (σ := List Nd) (fun _ => (fa, W.listOf (ns.map Nd.ref).toArray nf) :: news) (fun _ => []) [] (fun r c => ∃ post, r = post.map Nd.ref ∧ ns = c ++ post ∧ P c) ?_ ?_ _ _ _
    ⟨[], rfl, (fun _ h => nomatch h), (fun _ _ _ _ => rfl), ns, rfl, rfl, hp⟩
  · rintro v r c u it h tk ⟨post, hr, hns, hc⟩ hit F' N'
    cases post with
    | nil => cases hr
    | cons d post =>
      rw [List.map_cons, List.cons.injEq] at hr
      obtain ⟨rfl, rfl⟩ := hr
      refine wpAny_mono (turn c d post it I h tk hns hc hI (by simpa [kstB, Nd.ref] using F') N') (fun f s₂ p => unrPost_mono ?_ p) fun _ _ e => e
      rintro m n ⟨⟨rfl, hc'⟩, hm⟩
      exact ⟨List.mem_cons_self, c ++ [d], rfl, (fun _ h => nomatch h), (fun z hz _ _ => hm z hz), post, rfl, by rw [hns]; simp, hc'⟩
  · rintro c u h tk ⟨post, hr, hns, hc⟩ F' N'
    have e : post = [] := by cases post with | nil => rfl | cons d r => cases hr
    rw [e, List.append_nil] at hns
    rw [← hns] at hc
    exact done u h tk hc (by simpa [kstB] using F') N'
theorem nds_end {x : Str} {L I : Addr} {it : Obj} {l : List (Addr × Obj)} {R : Prop} {m₀ m' : Str → Option Value} {s₁ : Shared} {h' : Heap} {tk : Nat} (F : Fr h₀ L h' m') (N : News h₀ L h' ((I, it) :: l)) (hI : ∀ p ∈ l, p.1 < I) (hR : R)
    (hm : ∀ z, z ≠ x → m' z = m₀ z) : UnrEnd h₀ L s₁ I it (fun m' n' => (n' = l ∧ R) ∧ ∀ z, z ≠ x → m' z = m₀ z) { s₁ with heap := h', toks := tk } :=
  UnrEnd.intro F N _ (fun p hp => hp) (fun p hp => Nat.ne_of_lt (hI p hp)) ⟨⟨rfl, hR⟩, hm⟩
end

def walks (op : Str) : Bool := List.any [Str.ofString "field", Str.ofString "index", Str.ofString "guard"] fun x => x == op
/-- from the value down through fields, elements and guards: n steps, then a node of the op e, its value val -/
inductive Ch (news : List (Addr × Obj)) (e : Str) (val : Value) : Nat → Value → Prop
  | stop {x : Addr} {pl : Int} {ka : Addr} : NodeAt news x e pl ka val → walks e = false → Ch news e val 0 (.ref x)
  | step {x : Addr} {op : Str} {pl : Int} {ka : Addr} {val' v : Value} {nk n : Nat} : NodeAt news x op pl ka val' → walks op = true → (ka, W.listOf [v].toArray nk) ∈ news → Ch news e val n v → Ch news e val (n + 1) (.ref x)
theorem Ch.mono {news news' : List (Addr × Obj)} {e : Str} {val : Value} {n : Nat} {v : Value} (h : Ch news e val n v) (hs : ∀ p ∈ news, p ∈ news') : Ch news' e val n v := by
  induction h with
  | stop h1 h2 => exact .stop (h1.mono hs) h2
  | step h1 h2 h3 _ ih => exact .step (h1.mono hs) h2 (hs _ h3) ih
/-- an object of the class Obj: its field readonly -/
def ObjAt (news : List (Addr × Obj)) (x : Addr) (ro : Bool) : Prop :=
  ∃ (dx : Addr) (es : List DictEntry) (n : Nat), (x, instObj 109 dx) ∈ news ∧ (dx, dictOf es n) ∈ news ∧ getL (Str.ofString "readonly") es = some (some (.bool ro))
theorem ObjAt.mono {news news' : List (Addr × Obj)} {x : Addr} {ro : Bool} (h : ObjAt news x ro) (hs : ∀ p ∈ news, p ∈ news') : ObjAt news' x ro := by
  obtain ⟨dx, es, n, h1, h2, h3⟩ := h
  exact ⟨dx, es, n, hs _ h1, hs _ h2, h3⟩
end
end
end Mine
open Mine
local macro_rules | `(tactic| k_all) => `(tactic| assumption)
local macro_rules | `(tactic| k_mem) => `(tactic| first | (apply List.mem_cons_self; done) | with_reducible assumption | assumption | (apply List.mem_cons_of_mem; k_mem))
local macro_rules | `(tactic| walk_at "my up") => `(tactic| (rename News _ _ _ _ => lN'; first | exact lN' | (have lM' := news_up1 lN'; exact lM') | (have lM' := news_up2 lN'; exact lM') | (have lM' := news_up3 lN'; exact lM') | (have lM' := news_up4 lN'; exact lM') | (have lM' := news_up5 lN'; exact lM') | (have lM' := news_up6 lN'; exact lM')))
local macro_rules | `(tactic| walk_at "my len") => `(tactic| (first | omega | (simp only [List.length_append, List.length_cons, List.length_nil, List.length_map, List.length_reverse]; omega)))
local macro_rules | `(tactic| walk_at "my inst") => `(tactic| (exact InstAt.of_news (by k_asm) (by k_mem) (by k_mem)))
local macro_rules | `(tactic| walk_at "my sub") => `(tactic| (intro p hp; simp only [List.mem_cons, List.mem_append, hp, or_true, true_or]))
local macro_rules | `(tactic| walk_at "my fo") => `(tactic| (first | assumption | exact Fo.mono (by assumption) (by walk_at "my sub")))
local macro_rules | `(tactic| walk_at "my ch") => `(tactic| (first | assumption | exact Ch.mono (by assumption) (by walk_at "my sub")))
local macro_rules | `(tactic| walk_at "my row") => `(tactic| (first | assumption | (refine ⟨_, _, _, ?_, ?_, (by assumption)⟩ <;> assumption)))
local macro_rules | `(tactic| walk_at "my ce") => `(tactic| (exact CellsIn.mono (by assumption) (by walk_at "my sub")))
local macro_rules | `(tactic| walk_at "my ral") => `(tactic| (first | rfl | assumption))
local macro_rules | `(tactic| walk_at "my small") => `(tactic| (first | assumption | omega | decide))
local macro_rules | `(tactic| walk_at "my for") => `(tactic| (k_here; (rename Fr _ _ _ _ => lF'); (with_unfolding_all refine' For_invVF lF' ?k1 ?k2 ?_; (case k1 => exact rfl); (case k2 => exact rfl); k_whole)))
local macro_rules | `(tactic| walk_at "call builtin:len") => `(tactic| (k_here; (with_reducible show wpAny _ _ (call (Value.builtin "len") [Value.ref _]) _ _ _); k_dflt (refine' my_len ?k1 ?k2 ?k3 ?_; (case k1 => k_asm); (case k2 => k_mem); (case k3 => walk_at "my len"); k_whole)))
local macro_rules | `(tactic| walk_at "setItem ref str") => `(tactic| (k_here; k_dflt (refine' kda_set (knd := PySem.strKind _ _) ?F ?N ?U ?d (strKind_is _ _ _ _) ?z ?_; (case F => k_asm); (case N => k_asm); (case U => k_updF); (case d => k_asm); (case z => kob_size)); intro h' o' F' N' hd'; (try kob_lit); (try dsimp only at N')))
namespace Mine
section
example : True := by w_top off; trivial
section
section
variable {prog : Program} {w : World} {p : Program} {loose : List Str} {mean : ExcName → Option Value} {mg mb : Str → Option Value}
theorem figure_says {dp un : Nat} {gd : Option (List Code)} {cn : Str} {cs : Scope} {a : Addr} {ccd : Value} {cl : List (Str × Addr)} {outer : List Env} {A₀ : Around} {base h₀ : Heap} {L : Addr} {m : Str → Option Value} {news : List (Addr × Obj)} {s : Shared}
    {dr dc : Addr} {od : Obj} {cells : List Int} {pl most : Int} {t3 : Tok}
    {Q E : Value → Shared → Prop}
    (B : Below A₀ base outer h₀) (F : Fr h₀ L s.heap m) (X : Frag.In (hd.heap_39 w.params) h₀) (N : News h₀ L s.heap ((dr, od) :: news)) (T : Top p loose mean mg mb h₀) (hk : cs.kind = .function)
    (hne : ∀ p ∈ news, p.1 ≠ dr) (hro : RowIs prog w cells dc pl od) (hce : CellsIn news dc cells) (hm0 : 0 < most) (hm1 : most < 1000)
    (hdp : dp + 3 < recursionLimit) (hun : un + 24 < cLine)
    (hret : ∀ r t od' h' tk', 0 ≤ r → r < most → RowIs prog w cells dc pl od' → Fr h₀ L h' m → News h₀ L h' ((dr, od') :: news) → Q (.int r t) { s with heap := h', toks := tk' }) :
    wpAny (model prog w) (ktrTop dp un gd cn cs L a ccd cl outer) (call (.ref (ktn_at% "_law_figure")) [.ref dr, .int most t3]) Q E s := by
    obtain ⟨i, t1, t2, hi0, hi1, hod⟩ := hro
    obtain ⟨cvs, nc, hdc, hci, hcl, hcb⟩ := hce
    have hlen := hci.length
    refine wpAny_call ?_
    k_dflt ktr_enter
    k_steps
    · refine hret _ _ _ _ _ (fmod_lo _ hm0) (fmod_hi _ hm0) ?_ (by assumption) (by assumption)
      exact ⟨i + 1, _, _, by omega, by omega, by assumption⟩
    · refine hret _ _ _ _ _ (Int.le_refl _) hm0 ?_ (by assumption) (by assumption)
      exact ⟨i, _, _, hi0, hi1, hod⟩
end
end
end
end Mine
local macro_rules | `(tactic| walk_at "exec While Compare cons nil") => `(tactic| (k_here; refine halt ?_))
local macro_rules | `(tactic| walk_at "pyIter ref") => `(tactic| (k_here; refine halt ?_))
local macro_rules | `(tactic| walk_at "exec For Name Call cons nil") => `(tactic| (walk_at "my for"))
local macro_rules | `(tactic| walk_at "exec For Name Name cons nil") => `(tactic| (walk_at "my for"))
local macro_rules | `(tactic| walk_at "getAttr ref") => `(tactic| (k_here; k_dflt (refine' get_own ?k1 ?k2 ?k3 ?k4 ?k5 ?k6 ?k7 ?k8 ?k9 ?_; (case k1 => k_asm); (case k2 => k_asm); (case k3 => walk_at "my inst"); (case k4 => k_is); (case k5 => k_is); (case k6 => k_is); (case k7 => k_is); (case k8 => first | assumption | with_unfolding_all exact rfl); (case k9 => first | assumption | k_handed); k_whole)))
local macro_rules | `(tactic| walk_at "call builtin:list.append") => `(tactic| (k_here; (with_reducible show wpAny _ _ (call (Value.builtin _) [Value.ref _, _]) _ _ _); k_dflt (refine' my_append ?k1 ?k2 ?k3 ?z ?_; (case k1 => k_asm); (case k2 => k_asm); (case k3 => k_upd); (case z => walk_at "my len"); k_whole); intro h' F' N'; (try k_sweep)))
local macro_rules | `(tactic| walk_at "call builtin:list.pop") => `(tactic| (k_here; (with_reducible show wpAny _ _ (call (Value.builtin _) [Value.ref _]) _ _ _); k_dflt (refine' my_pop ?k1 ?k2 ?k3 ?z ?_; (case k1 => k_asm); (case k2 => k_asm); (case k3 => k_upd); (case z => walk_at "my len"); k_whole); intro h' F' N'; (try k_sweep)))
local macro_rules | `(tactic| walk_at "WhPost") => `(tactic| (dsimp only [WhPost]))
local macro_rules | `(tactic| walk_at "call type:reversed") => `(tactic| (k_here; (with_reducible show wpAny _ _ (call (Value.type _) [Value.ref _]) _ _ _); k_dflt (refine' krv_reversed ?F ?N ?l ?_; (case F => k_asm); (case N => k_asm); (case l => exact News.isList (by k_asm) (by k_mem))); intro D' h' F' N' l1))
local macro_rules | `(tactic| walk_at "subscriptTail Name Constant ref int") => `(tactic| (k_here; (with_reducible show wpAny _ _ (subscriptTail _ _ (Value.ref _) (Value.int _ _)) _ _ _); (with_unfolding_all refine' my_item ?k1 ?k2 ?k3 ?k4 ?k5 ?_ ?k6; (case k1 => k_asm); (case k2 => k_mem); (case k3 => decide); (case k4 => decide); (case k5 => rfl); (case k6 => with_unfolding_all rfl); k_whole)))
namespace Mine
section
example : True := by w_top off; trivial
section
section
variable {prog : Program} {w : World} {p : Program} {loose : List Str} {mean : ExcName → Option Value} {mg mb : Str → Option Value}
theorem nodes_says {dp un : Nat} {gd : Option (List Code)} {cn : Str} {cs : Scope} {a : Addr} {ccd : Value} {cl : List (Str × Addr)} {outer : List Env} {A₀ : Around} {base h₀ : Heap} {L : Addr} {m : Str → Option Value} {news : List (Addr × Obj)} {s : Shared}
    {v : Value} {ns : List Nd}
    {Q E : Value → Shared → Prop}
    (B : Below A₀ base outer h₀) (F : Fr h₀ L s.heap m) (X : Frag.In (hd.heap_39 w.params) h₀) (N : News h₀ L s.heap news) (T : Top p loose mean mg mb h₀) (hk : cs.kind = .function)
    (hv : (v = .none ∧ ns = []) ∨ Fo news [v] ns) (hlen : ns.length ≤ 200)
    (hdp : dp + 3 < recursionLimit) (hun : un + 24 < cLine)
    (hret : ∀ fa nf h' tk', Fr h₀ L h' m → News h₀ L h' ((fa, W.listOf (ns.map Nd.ref).toArray nf) :: news) → (∀ p ∈ news, p.1 < fa) → Q (.ref fa) { s with heap := h', toks := tk' }) :
    wpAny (model prog w) (ktrTop dp un gd cn cs L a ccd cl outer) (call (.ref (ktn_at% "nodes_of")) [v]) Q E s := by
    have key : ∃ ws : List Value, (v = .none ∧ ws = [] ∨ (∃ x, v = .ref x) ∧ ws = [v]) ∧ Fo news ws.reverse ns := by
      rcases hv with ⟨rfl, rfl⟩ | hv
      · exact ⟨[], .inl ⟨rfl, rfl⟩, .nil⟩
      · exact ⟨[v], .inr ⟨hv.refs v (.head _), rfl⟩, hv⟩
    clear hv
    obtain ⟨ws, hv, hfo⟩ := key
    have hwl := hfo.len
    rcases hv with ⟨rfl, rfl⟩ | ⟨⟨x, rfl⟩, rfl⟩
    all_goals (
      refine wpAny_call ?_
      k_dflt ktr_enter
      k_steps)
    all_goals (
      refine (show wpAny _ _ _ _ _ _ from ?_)
      (rename Fr _ _ _ _ => lF')
      (rename News _ _ _ _ => lN')
      with_unfolding_all refine nodes_loop (Str.ofString "one") [Str.ofString "kid"] lF' lN' hfo ?_ ?_
      clear lF' lN')
    all_goals first
      | (intro nw nf u h tk F' N'
         k_steps
         (rename News h₀ L _ _ => N9)
         exact hret _ _ _ _ (by assumption) (fun p hp => N9 p (List.mem_cons_of_mem _ hp)) (by assumption))
      | skip
    all_goals (
      intro done x' op pl ka val kids nk ns1 vs ns2 nw nf u h tk hN hka h1 h2 hns F' N'
      have hl1 := h1.len
      have hl2 := h2.len
      have hl3 : ns.length = done.length + (ns1.length + ns2.length + 1) := by rw [hns]; simp
      have hkr : ∀ v ∈ kids, v = .none ∨ ∃ a, v = .ref a := fun v hv => by
        by_cases e : v = .none
        · exact .inl e
        · exact .inr (h1.refs v (List.mem_filter.mpr ⟨hv, by simpa using e⟩))
      obtain ⟨dx, es, nd, t1, t2, hx, hdx, gop, gpl, gka, gval⟩ := hN
      k_steps)
    all_goals (
      refine (show wpAny _ _ _ _ _ _ from ?_)
      (rename Fr _ _ _ _ => lF')
      (rename News _ _ _ _ => lN')
      (rename ∀ p ∈ _ :: _, _ => hI)
      have hwI := ltN (hI _ List.mem_cons_self)
      dsimp only at hwI
      with_unfolding_all refine kids_loop rfl lF' lN' hI (List.mem_cons_of_mem _ hka) hkr ?skip ?push ?done
      clear lF' lN'
      case skip =>
        intro acc nw it h tk hit F' N'
        k_steps
        exact kids_end (by assumption) (by assumption) hI (fun z hz => if_neg hz)
      case push =>
        intro b acc nw it h tk hal hit F' N'
        k_steps
        exact kids_end (by assumption) (by assumption) hI (fun z hz => if_neg hz)
      case done =>
        intro nw u h tk F' N'
        k_steps
        (rename Fr _ _ _ _ => lF')
        (rename News _ _ _ _ => lN')
        refine WhEnd.intro lF' lN' _ (fun p hp => hp) ⟨⟨_, _, _, by rw [List.map_append]; rfl, ?_⟩, ?_⟩
        · simpa using h1.append h2
        · intro z hz hs
          have hk : z ≠ Str.ofString "kid" := by
            intro e
            subst e
            revert hs
            decide
          simp [hz, hk])
end
end
end
end Mine
namespace Mine
section
example : True := by w_top off; trivial
section
section
variable {prog : Program} {w : World} {p : Program} {loose : List Str} {mean : ExcName → Option Value} {mg mb : Str → Option Value}
theorem node5_says {dp un : Nat} {gd : Option (List Code)} {cn : Str} {cs : Scope} {a : Addr} {ccd : Value} {cl : List (Str × Addr)} {outer : List Env} {A₀ : Around} {base h₀ : Heap} {L : Addr} {m : Str → Option Value} {news : List (Addr × Obj)} {s : Shared}
    {v1 v2 v3 v4 v5 : Value}
    {Q E : Value → Shared → Prop}
    (B : Below A₀ base outer h₀) (F : Fr h₀ L s.heap m) (X : Frag.In (hd.heap_39 w.params) h₀) (N : News h₀ L s.heap news) (T : Top p loose mean mg mb h₀) (hk : cs.kind = .function)
    (hdp : dp + 6 < recursionLimit)
    (hret : ∀ (x d : Addr) (h' : Heap) (tk' : Tok) (g0 g1 g2 g3 g4 g5 : Int) (k0 k1 k2 k3 k4 k5 : Tok), Fr h₀ L h' m → News h₀ L h' ((x, instObj 32 d) :: (d, dictOf [⟨g0, .str (Str.ofString "op") k0, v1⟩, ⟨g1, .str (Str.ofString "place") k1, v2⟩, ⟨g2, .str (Str.ofString "type") k2, v3⟩, ⟨g3, .str (Str.ofString "kids") k3, v4⟩, ⟨g4, .str (Str.ofString "value") k4, v5⟩, ⟨g5, .str (Str.ofString "sure") k5, .bool false⟩] 6) :: news) → (∀ p ∈ news, p.1 < d) → d < x → Q (.ref x) { s with heap := h', toks := tk' }) :
    wpAny (model prog w) (ktrTop dp un gd cn cs L a ccd cl outer) (call (.ref 32) [v1, v2, v3, v4, v5]) Q E s := by
    refine' call_cls ?k1 ?k2 ?k3 ?k4 ?k5 ?k6 ?_
    (case k1 => k_asm)
    (case k2 => k_asm)
    (case k3 => k_asm)
    (case k4 => k_is)
    (case k5 => k_is)
    (case k6 => k_is)
    intro x' d' h' F' N' l1 l2
    k_sweep
    k_dflt (refine' code_def ?k1 ?k2 ?k3 ?k4 ?k5 ?kA ?kF ?kK ?k6 ?k7 ?k8 ?k9 ?kB ?_ ?c2 ?c3 ?c4 ?c5; (case kA => exact rfl); (case kF => exact rfl); (case kK => assumption); (case k1 => k_asm); (case k2 => k_asm); (case k3 => k_asm); (case k4 => k_asm); (case k5 => k_asm); (case k6 => k_is); (case k7 => k_is); (case k8 => ktr_room); (case k9 => first | exact BindsTo.of_eq rfl | exact binds_K (by k_in) rfl (by k_is) rfl rfl rfl); (case c5 => decide); (case kB => exact locs rfl); (case c2 => exact rfl); (case c3 => exact rfl); (case c4 => exact rfl); k_whole; intro g' L' h' FG' F' N' B' X' T'; (try dsimp only); (try k_fold))
    have l2' := ltN l2
    k_steps
    (rename Fr h₀ L _ _ => F9)
    (rename News h₀ L _ _ => N9)
    exact hret _ _ _ _ _ _ _ _ _ _ _ _ _ _ _ _ F9 N9 l1 l2
theorem node4_says {dp un : Nat} {gd : Option (List Code)} {cn : Str} {cs : Scope} {a : Addr} {ccd : Value} {cl : List (Str × Addr)} {outer : List Env} {A₀ : Around} {base h₀ : Heap} {L : Addr} {m : Str → Option Value} {news : List (Addr × Obj)} {s : Shared}
    {v1 v2 v3 v4 : Value}
    {Q E : Value → Shared → Prop}
    (B : Below A₀ base outer h₀) (F : Fr h₀ L s.heap m) (X : Frag.In (hd.heap_39 w.params) h₀) (N : News h₀ L s.heap news) (T : Top p loose mean mg mb h₀) (hk : cs.kind = .function)
    (hdp : dp + 6 < recursionLimit)
    (hret : ∀ (x d : Addr) (h' : Heap) (tk' : Tok) (g0 g1 g2 g3 g4 g5 : Int) (k0 k1 k2 k3 k4 k5 : Tok), Fr h₀ L h' m → News h₀ L h' ((x, instObj 32 d) :: (d, dictOf [⟨g0, .str (Str.ofString "op") k0, v1⟩, ⟨g1, .str (Str.ofString "place") k1, v2⟩, ⟨g2, .str (Str.ofString "type") k2, v3⟩, ⟨g3, .str (Str.ofString "kids") k3, v4⟩, ⟨g4, .str (Str.ofString "value") k4, .none⟩, ⟨g5, .str (Str.ofString "sure") k5, .bool false⟩] 6) :: news) → (∀ p ∈ news, p.1 < d) → d < x → Q (.ref x) { s with heap := h', toks := tk' }) :
    wpAny (model prog w) (ktrTop dp un gd cn cs L a ccd cl outer) (call (.ref 32) [v1, v2, v3, v4]) Q E s := by
    refine' call_cls ?k1 ?k2 ?k3 ?k4 ?k5 ?k6 ?_
    (case k1 => k_asm)
    (case k2 => k_asm)
    (case k3 => k_asm)
    (case k4 => k_is)
    (case k5 => k_is)
    (case k6 => k_is)
    intro x' d' h' F' N' l1 l2
    k_sweep
    k_dflt (refine' code_def ?k1 ?k2 ?k3 ?k4 ?k5 ?kA ?kF ?kK ?k6 ?k7 ?k8 ?k9 ?kB ?_ ?c2 ?c3 ?c4 ?c5; (case kA => exact rfl); (case kF => exact rfl); (case kK => assumption); (case k1 => k_asm); (case k2 => k_asm); (case k3 => k_asm); (case k4 => k_asm); (case k5 => k_asm); (case k6 => k_is); (case k7 => k_is); (case k8 => ktr_room); (case k9 => first | exact BindsTo.of_eq rfl | exact binds_K (by k_in) rfl (by k_is) rfl rfl rfl); (case c5 => decide); (case kB => exact locs rfl); (case c2 => exact rfl); (case c3 => exact rfl); (case c4 => exact rfl); k_whole; intro g' L' h' FG' F' N' B' X' T'; (try dsimp only); (try k_fold))
    have l2' := ltN l2
    k_steps
    (rename Fr h₀ L _ _ => F9)
    (rename News h₀ L _ _ => N9)
    exact hret _ _ _ _ _ _ _ _ _ _ _ _ _ _ _ _ F9 N9 l1 l2
theorem obj_says {dp un : Nat} {gd : Option (List Code)} {cn : Str} {cs : Scope} {a : Addr} {ccd : Value} {cl : List (Str × Addr)} {outer : List Env} {A₀ : Around} {base h₀ : Heap} {L : Addr} {m : Str → Option Value} {news : List (Addr × Obj)} {s : Shared}
    {v1 v2 v3 v4 : Value}
    {Q E : Value → Shared → Prop}
    (B : Below A₀ base outer h₀) (F : Fr h₀ L s.heap m) (X : Frag.In (hd.heap_39 w.params) h₀) (N : News h₀ L s.heap news) (T : Top p loose mean mg mb h₀) (hk : cs.kind = .function)
    (hdp : dp + 6 < recursionLimit)
    (hret : ∀ (x d : Addr) (h' : Heap) (tk' : Tok) (g0 g1 g2 g3 g4 g5 g6 g7 g8 g9 g10 g11 g12 g13 : Int) (k0 k1 k2 k3 k4 k5 k6 k7 k8 k9 k10 k11 k12 k13 t6 t7 t9 t10 t11 : Tok), Fr h₀ L h' m → News h₀ L h' ((x, instObj 109 d) :: (d, dictOf [⟨g0, .str (Str.ofString "name") k0, v1⟩, ⟨g1, .str (Str.ofString "kind") k1, v2⟩, ⟨g2, .str (Str.ofString "type") k2, v3⟩, ⟨g3, .str (Str.ofString "place") k3, v4⟩, ⟨g4, .str (Str.ofString "exported") k4, .bool false⟩, ⟨g5, .str (Str.ofString "readonly") k5, .bool false⟩, ⟨g6, .str (Str.ofString "level") k6, .int 0 t6⟩, ⟨g7, .str (Str.ofString "module") k7, .str (Str.ofString "") t7⟩, ⟨g8, .str (Str.ofString "value") k8, .none⟩, ⟨g9, .str (Str.ofString "slot") k9, .int 0 t9⟩, ⟨g10, .str (Str.ofString "offset") k10, .int 0 t10⟩, ⟨g11, .str (Str.ofString "number") k11, .int 0 t11⟩, ⟨g12, .str (Str.ofString "isparam") k12, .bool false⟩, ⟨g13, .str (Str.ofString "narrowed") k13, .none⟩] 14) :: news) → (∀ p ∈ news, p.1 < d) → d < x → Q (.ref x) { s with heap := h', toks := tk' }) :
    wpAny (model prog w) (ktrTop dp un gd cn cs L a ccd cl outer) (call (.ref 109) [v1, v2, v3, v4]) Q E s := by
    refine' call_cls ?k1 ?k2 ?k3 ?k4 ?k5 ?k6 ?_
    (case k1 => k_asm)
    (case k2 => k_asm)
    (case k3 => k_asm)
    (case k4 => k_is)
    (case k5 => k_is)
    (case k6 => k_is)
    intro x' d' h' F' N' l1 l2
    k_sweep
    k_dflt (refine' code_def ?k1 ?k2 ?k3 ?k4 ?k5 ?kA ?kF ?kK ?k6 ?k7 ?k8 ?k9 ?kB ?_ ?c2 ?c3 ?c4 ?c5; (case kA => exact rfl); (case kF => exact rfl); (case kK => assumption); (case k1 => k_asm); (case k2 => k_asm); (case k3 => k_asm); (case k4 => k_asm); (case k5 => k_asm); (case k6 => k_is); (case k7 => k_is); (case k8 => ktr_room); (case k9 => first | exact BindsTo.of_eq rfl | exact binds_K (by k_in) rfl (by k_is) rfl rfl rfl); (case c5 => decide); (case kB => exact locs rfl); (case c2 => exact rfl); (case c3 => exact rfl); (case c4 => exact rfl); k_whole; intro g' L' h' FG' F' N' B' X' T'; (try dsimp only); (try k_fold))
    have l2' := ltN l2
    k_steps
    (rename Fr h₀ L _ _ => F9)
    (rename News h₀ L _ _ => N9)
    exact hret _ _ _ _ _ _ _ _ _ _ _ _ _ _ _ _ _ _ _ _ _ _ _ _ _ _ _ _ _ _ _ _ _ _ _ _ _ F9 N9 l1 l2
end
end
end
end Mine
namespace Mine
section
example : True := by w_top off; trivial
local macro_rules | `(tactic| walk_at "call ref") => `(tactic| (k_here; (with_reducible show wpAny _ _ (call (Value.ref 43) _) _ _ _); k_dflt (refine' nodes_says ?k1 ?k2 ?k3 ?k4 ?k5 ?kK ?hv ?hl ?kd ?ku ?_; (case k1 => k_asm); (case k2 => k_asm); (case k3 => k_asm); (case k4 => k_asm); (case k5 => k_asm); (case kK => walk_at "my ral"); (case hv => first | exact .inr (by assumption) | (exact .inl ⟨rfl, rfl⟩) | exact .inr (Fo.mono (by assumption) (by walk_at "my sub"))); (case hl => walk_at "my small"); (case kd => ktr_room); (case ku => ktr_units); intro fa' nf' h' tk' F' N' l1')))
section
section
variable {prog : Program} {w : World} {p : Program} {loose : List Str} {mean : ExcName → Option Value} {mg mb : Str → Option Value}
def isCall (d : Nd) : Bool := d.op == Str.ofString "call"
theorem has_says {dp un : Nat} {gd : Option (List Code)} {cn : Str} {cs : Scope} {a : Addr} {ccd : Value} {cl : List (Str × Addr)} {outer : List Env} {A₀ : Around} {base h₀ : Heap} {L : Addr} {m : Str → Option Value} {news : List (Addr × Obj)} {s : Shared}
    {v : Value} {ns : List Nd}
    {Q E : Value → Shared → Prop}
    (B : Below A₀ base outer h₀) (F : Fr h₀ L s.heap m) (X : Frag.In (hd.heap_39 w.params) h₀) (N : News h₀ L s.heap news) (T : Top p loose mean mg mb h₀) (hk : cs.kind = .function)
    (hv : Fo news [v] ns) (hlen : ns.length ≤ 200)
    (hdp : dp + 6 < recursionLimit) (hun : un + 48 < cLine)
    (hret : ∀ h' tk', Fr h₀ L h' m → News h₀ L h' news → Q (.bool (ns.any isCall)) { s with heap := h', toks := tk' }) :
    wpAny (model prog w) (ktrTop dp un gd cn cs L a ccd cl outer) (call (.ref (ktn_at% "has_call")) [v]) Q E s := by
    refine wpAny_call ?_
    k_dflt ktr_enter
    k_steps
    refine (show wpAny _ _ _ _ _ _ from ?_)
    (rename Fr _ _ _ _ => lF')
    (rename News _ _ _ _ => lN')
    with_unfolding_all refine nds_loop (fun pre => pre.any isCall = false) rfl lF' lN' rfl ?turn ?done
    clear lF' lN'
    case turn =>
      intro pre d post it I h tk hns hp hI F' N'
      obtain ⟨ka, val, dx, es, n, t1, t2, hx, hdx, gop, gpl, gka, gval⟩ := hv.at d (by rw [hns]; simp)
      k_steps
      · (rename (d.op == _) = true => hop)
        (rename News h₀ L _ _ => N9)
        have e : ns.any isCall = true := by
          rw [hns, List.any_append, List.any_cons]
          have : isCall d = true := hop
          simp [this]
        have r := hret h tk (by assumption) (fun p hp => N9 p (List.mem_cons_of_mem _ (List.mem_cons_of_mem _ hp)))
        rw [e] at r
        exact r
      · (rename (d.op == _) = false => hop)
        refine nds_end (by assumption) (by assumption) hI ?_ (fun z hz => if_neg hz)
        have : isCall d = false := hop
        rw [List.any_append, hp]
        simp [this]
    case done =>
      intro u h tk hp F' N'
      k_steps
      (rename News h₀ L _ _ => N9)
      have r := hret h tk (by assumption) (fun p hp => N9 p (List.mem_cons_of_mem _ hp))
      rw [hp] at r
      exact r
end
end
end
end Mine
namespace Mine
section
example : True := by w_top off; trivial
section
section
variable {prog : Program} {w : World} {p : Program} {loose : List Str} {mean : ExcName → Option Value} {mg mb : Str → Option Value}
theorem desig_says {dp un : Nat} {gd : Option (List Code)} {cn : Str} {cs : Scope} {a : Addr} {ccd : Value} {cl : List (Str × Addr)} {outer : List Env} {A₀ : Around} {base h₀ : Heap} {L : Addr} {m : Str → Option Value} {news : List (Addr × Obj)} {s : Shared}
    {v val : Value} {e : Str} {n : Nat}
    {Q E : Value → Shared → Prop}
    (B : Below A₀ base outer h₀) (F : Fr h₀ L s.heap m) (X : Frag.In (hd.heap_39 w.params) h₀) (N : News h₀ L s.heap news) (T : Top p loose mean mg mb h₀) (hk : cs.kind = .function)
    (hv : Ch news e val n v)
    (hdp : dp + 3 < recursionLimit) (hun : un + 24 < cLine)
    (hret : ∀ h' tk', Fr h₀ L h' m → News h₀ L h' news → Q (.bool (e == Str.ofString "var" || e == Str.ofString "deref")) { s with heap := h', toks := tk' }) :
    wpAny (model prog w) (ktrTop dp un gd cn cs L a ccd cl outer) (call (.ref (ktn_at% "is_designator")) [v]) Q E s := by
    refine wpAny_call ?_
    k_dflt ktr_enter
    k_steps
    refine (show wpAny _ _ _ _ _ _ from ?_)
    (rename Fr _ _ _ _ => lF')
    (rename News _ _ _ _ => lN')
    with_unfolding_all refine while_S (fun _ => news) (fun c => [(Str.ofString "node", c)]) (Str.ofString "?") [] (fun n c => Ch news e val n c) n v lF' lN' ?ps hv ?turn
    clear lF' lN'
    case ps =>
      intro p hp
      rw [List.mem_singleton.mp hp]
      rfl
    case turn =>
      intro n c u h tk hP F' N'
      cases hP with
      | stop hN hw =>
        obtain ⟨dx, es, n, t1, t2, hx, hdx, gop, gpl, gka, gval⟩ := hN
        k_steps
        · exact absurd ((by assumption : walks e = true).symm.trans hw) (by decide)
        · (rename (e == _) = true => he)
          (rename News h₀ L _ _ => N9)
          rw [show (e == Str.ofString "var") = (e == Str.ofString "var" || e == Str.ofString "deref") from by rw [he]; rfl]
          exact hret _ _ (by assumption) (fun p hp => N9 p (List.mem_cons_of_mem _ hp))
        · (rename (e == _) = false => he)
          (rename News h₀ L _ _ => N9)
          rw [show (e == Str.ofString "deref") = (e == Str.ofString "var" || e == Str.ofString "deref") from by rw [he]; rfl]
          exact hret _ _ (by assumption) (fun p hp => N9 p (List.mem_cons_of_mem _ hp))
      | @step x op pl ka val' v' nk n hN hw hka hc =>
        obtain ⟨dx, es, n, t1, t2, hx, hdx, gop, gpl, gka, gval⟩ := hN
        k_steps
        · (rename Fr _ _ _ _ => lF')
          (rename News _ _ _ _ => lN')
          refine WhEnd.intro lF' lN' news (fun p hp => by first | exact hp | exact List.mem_cons_of_mem _ hp | exact List.mem_cons_of_mem _ (List.mem_cons_of_mem _ hp)) ⟨_, Nat.lt_succ_self _, v', rfl, fun p hp => by rw [List.mem_singleton.mp hp]; rfl, fun z hz hz2 _ => ?_, hc⟩
          have hn := hz2 _ List.mem_cons_self
          dsimp only at hn
          show (if z = Str.ofString "node" then _ else _) = _
          rw [if_neg hn]
          show (if z = Str.ofString "?" then _ else _) = _
          rw [if_neg hz]
          show (if z = Str.ofString "node" then _ else _) = _
          rw [if_neg hn]
          rfl
        all_goals exact absurd (hw.symm.trans (by assumption : walks op = false)) (by decide)
theorem root_says {dp un : Nat} {gd : Option (List Code)} {cn : Str} {cs : Scope} {a : Addr} {ccd : Value} {cl : List (Str × Addr)} {outer : List Env} {A₀ : Around} {base h₀ : Heap} {L : Addr} {m : Str → Option Value} {news : List (Addr × Obj)} {s : Shared}
    {v val : Value} {e : Str} {n : Nat}
    {Q E : Value → Shared → Prop}
    (B : Below A₀ base outer h₀) (F : Fr h₀ L s.heap m) (X : Frag.In (hd.heap_39 w.params) h₀) (N : News h₀ L s.heap news) (T : Top p loose mean mg mb h₀) (hk : cs.kind = .function)
    (hv : Ch news e val n v) (hvh : handedIn val = true)
    (hdp : dp + 3 < recursionLimit) (hun : un + 24 < cLine)
    (hret : ∀ h' tk', Fr h₀ L h' m → News h₀ L h' news → Q (if (e == Str.ofString "var") = true then val else .none) { s with heap := h', toks := tk' }) :
    wpAny (model prog w) (ktrTop dp un gd cn cs L a ccd cl outer) (call (.ref (ktn_at% "root_var")) [v]) Q E s := by
    refine wpAny_call ?_
    k_dflt ktr_enter
    k_steps
    refine (show wpAny _ _ _ _ _ _ from ?_)
    (rename Fr _ _ _ _ => lF')
    (rename News _ _ _ _ => lN')
    with_unfolding_all refine while_S (fun _ => news) (fun c => [(Str.ofString "node", c)]) (Str.ofString "?") [] (fun n c => Ch news e val n c) n v lF' lN' ?ps hv ?turn
    clear lF' lN'
    case ps =>
      intro p hp
      rw [List.mem_singleton.mp hp]
      rfl
    case turn =>
      intro n c u h tk hP F' N'
      cases hP with
      | stop hN hw =>
        obtain ⟨dx, es, n, t1, t2, hx, hdx, gop, gpl, gka, gval⟩ := hN
        k_steps
        · exact absurd ((by assumption : walks e = true).symm.trans hw) (by decide)
        · (rename (e == _) = true => he)
          (rename News h₀ L _ _ => N9)
          rw [show val = (if (e == Str.ofString "var") = true then val else .none) from by rw [if_pos he]]
          exact hret _ _ (by assumption) (fun p hp => N9 p (List.mem_cons_of_mem _ hp))
        · (rename (e == _) = false => he)
          (rename News h₀ L _ _ => N9)
          rw [show Value.none = (if (e == Str.ofString "var") = true then val else .none) from by rw [if_neg (by rw [he]; decide)]]
          exact hret _ _ (by assumption) (fun p hp => N9 p (List.mem_cons_of_mem _ hp))
      | @step x op pl ka val' v' nk n hN hw hka hc =>
        obtain ⟨dx, es, n, t1, t2, hx, hdx, gop, gpl, gka, gval⟩ := hN
        k_steps
        · (rename Fr _ _ _ _ => lF')
          (rename News _ _ _ _ => lN')
          refine WhEnd.intro lF' lN' news (fun p hp => by first | exact hp | exact List.mem_cons_of_mem _ hp | exact List.mem_cons_of_mem _ (List.mem_cons_of_mem _ hp)) ⟨_, Nat.lt_succ_self _, v', rfl, fun p hp => by rw [List.mem_singleton.mp hp]; rfl, fun z hz hz2 _ => ?_, hc⟩
          have hn := hz2 _ List.mem_cons_self
          dsimp only at hn
          show (if z = Str.ofString "node" then _ else _) = _
          rw [if_neg hn]
          show (if z = Str.ofString "?" then _ else _) = _
          rw [if_neg hz]
          show (if z = Str.ofString "node" then _ else _) = _
          rw [if_neg hn]
          rfl
        all_goals exact absurd (hw.symm.trans (by assumption : walks op = false)) (by decide)
end
end
end
end Mine
namespace Mine
section
example : True := by w_top off; trivial
local macro_rules | `(tactic| walk_at "call ref") => `(tactic| (k_here; (with_reducible show wpAny _ _ (call (Value.ref 64) _) _ _ _); k_dflt (refine' root_says ?k1 ?k2 ?k3 ?k4 ?k5 ?kK ?hv ?hh ?kd ?ku ?_; (case k1 => k_asm); (case k2 => k_asm); (case k3 => k_asm); (case k4 => k_asm); (case k5 => k_asm); (case kK => walk_at "my ral"); (case hv => walk_at "my ch"); (case hh => walk_at "my ral"); (case kd => ktr_room); (case ku => ktr_units); intro h' tk' F' N'; first | rw [if_pos (by assumption)] | rw [if_neg (by assumption)] | skip)))
local macro_rules | `(tactic| walk_at "call ref") => `(tactic| (k_here; (with_reducible show wpAny _ _ (call (Value.ref 57) _) _ _ _); k_dflt (refine' desig_says ?k1 ?k2 ?k3 ?k4 ?k5 ?kK ?hv ?kd ?ku ?_; (case k1 => k_asm); (case k2 => k_asm); (case k3 => k_asm); (case k4 => k_asm); (case k5 => k_asm); (case kK => walk_at "my ral"); (case hv => walk_at "my ch"); (case kd => ktr_room); (case ku => ktr_units); intro h' tk' F' N')))
section
section
variable {prog : Program} {w : World} {p : Program} {loose : List Str} {mean : ExcName → Option Value} {mg mb : Str → Option Value}
theorem ro_says {dp un : Nat} {gd : Option (List Code)} {cn : Str} {cs : Scope} {a : Addr} {ccd : Value} {cl : List (Str × Addr)} {outer : List Env} {A₀ : Around} {base h₀ : Heap} {L : Addr} {m : Str → Option Value} {news : List (Addr × Obj)} {s : Shared}
    {v val : Value} {e : Str} {n : Nat} {ro : Bool}
    {Q E : Value → Shared → Prop}
    (B : Below A₀ base outer h₀) (F : Fr h₀ L s.heap m) (X : Frag.In (hd.heap_39 w.params) h₀) (N : News h₀ L s.heap news) (T : Top p loose mean mg mb h₀) (hk : cs.kind = .function)
    (hv : Ch news e val n v) (hval : (e == Str.ofString "var") = true → ∃ ho, val = .ref ho ∧ ObjAt news ho ro) (hvh : handedIn val = true)
    (hdp : dp + 6 < recursionLimit) (hun : un + 48 < cLine)
    (hret : ∀ h' tk', Fr h₀ L h' m → News h₀ L h' news → Q (.bool (e == Str.ofString "var" && ro)) { s with heap := h', toks := tk' }) :
    wpAny (model prog w) (ktrTop dp un gd cn cs L a ccd cl outer) (call (.ref (ktn_at% "is_readonly")) [v]) Q E s := by
    by_cases he : (e == Str.ofString "var") = true
    · obtain ⟨ho, rfl, dx, es, n, hx, hdx, gro⟩ := hval he
      refine wpAny_call ?_
      k_dflt ktr_enter
      k_steps
      (rename News h₀ L _ _ => N9)
      (rename Fr h₀ L _ _ => F9)
      rw [show Value.bool ro = Value.bool (e == Str.ofString "var" && ro) from by rw [he, Bool.true_and]]
      exact hret _ _ F9 N9
    · have he' : (e == Str.ofString "var") = false := by simpa using he
      refine wpAny_call ?_
      k_dflt ktr_enter
      k_steps
      (rename News h₀ L _ _ => N9)
      (rename Fr h₀ L _ _ => F9)
      rw [show Value.bool false = Value.bool (e == Str.ofString "var" && ro) from by rw [he', Bool.false_and]]
      exact hret _ _ F9 N9
end
end
end
end Mine
namespace Mine
section
section
section
variable {prog : Program} {w : World} {A : Around} {E : Value → Shared → Prop} {s : Shared} {h₀ : Heap} {L : Addr} {m : Str → Option Value} {news news' : List (Addr × Obj)}
theorem fills_list_iadd : fillsInplaceSlot (.type "list") "add" (Operator.Add == .Add) = pure false := by
  unfold fillsInplaceSlot
  show (typeLookup (.type "list") (dunderI "add") >>= fun fi => pure (fi.isSome && !isSeqSlot fi)) = pure false
  rw [PySem.F.slot_list_iadd.lookup]
  have e : isSeqSlot (some (.builtin "list.__iadd__")) = true := by decide +kernel
  show (pure (true && !isSeqSlot (some (.builtin "list.__iadd__"))) : Sem Bool) = pure false
  rw [e]
  rfl
theorem seq_list_iadd : seqSlot? (.type "list") (dunderI "add") = pure (some (.builtin "list.__iadd__")) := PySem.seqSlot_of PySem.F.slot_list_iadd.lookup (by decide +kernel)
theorem my_iadd {D b : Addr} {xs ys : List Value} {n n2 : Nat} {Q : Value → Shared → Prop} (F : Fr h₀ L s.heap m) (N : News h₀ L s.heap news) (hb : (b, W.listOf ys.toArray n2) ∈ news) (hne : 0 < ys.length)
    (U : Upd D (W.listOf xs.toArray n) (W.listOf (xs ++ ys).toArray (n + 1)) news news') (hz : xs.length + ys.length ≤ 1000) (h : ∀ h', Fr h₀ L h' m → News h₀ L h' news' → Q (.ref D) { s with heap := h' }) :
    wpAny (model prog w) A (inplaceOp .Add (.ref D) (.ref b)) Q E s := by
  have hDb : (∃ pre post, news = pre ++ (D, W.listOf xs.toArray n) :: post ∧ news' = pre ++ (D, W.listOf (xs ++ ys).toArray (n + 1)) :: post ∧ (∀ p ∈ pre, p.1 ≠ D) ∧ ∀ p ∈ post, p.1 ≠ D) := U.split
  obtain ⟨pre, post, rfl, rfl, ha, hc⟩ := hDb
  have z := N (D, W.listOf xs.toArray n) (List.mem_append.mpr (.inr (.head _)))
  have zb := N _ hb
  have tD : s.TypeIs (.ref D) "list" := ⟨_, z.1, rfl⟩
  have tb : s.TypeIs (.ref b) "list" := ⟨_, zb.1, rfl⟩
  unfold inplaceOp
  refine wpAny_holding ?_
  refine wpAny_bind (wpAny_typeOf tD (wpAny_bind (wpAny_of_eq fills_list_iadd ?_)))
  show wpAny _ A (if false = true then _ else _) Q E s
  rw [if_neg Bool.false_ne_true]
  refine wpAny_bind (wpAny_binaryOp1_none (nm := "add") tD tb noFill_list_add ?_)
  refine wpAny_bind (wpAny_of_eq seq_list_iadd ?_)
  refine wpAny_bind (wpAny_rule ?_)
  refine (call_meets PySem.F.slot_list_iadd tD PySem.F.entry_list_iadd (PySem.F.args_list_iadd_2 _ _) (PySem.AutoSeq1.list___iadd___list_list_0 D xs.toArray n b ys.toArray n2 ?_ ?_ ?_) ⟨z.1, zb.1, ?_⟩)
  · simp only [Builtin.List.listTooLong, List.size_toArray]
    intro hh
    revert hh
    simp
    intro _
    have hs9 := sizeLine_eq
    omega
  · rw [sizeLine_eq, List.size_toArray]; omega
  · rw [sizeLine_eq, List.size_toArray, List.size_toArray]; omega
  · refine (h _ (F.change (Heap.SameBut.update ..) z.2.1 z.2.2) (kl_turn _ N ha hc ?_ ?_))
    · apply Array.toList_inj.mp; simp
    · simp; intro e; subst e; simp at hne

theorem over_of {dr a : Addr} {od : Obj} {l : List (Addr × Obj)} (h1 : @LT.lt Nat _ dr a) (h2 : AllLt a l) : ∀ q ∈ (dr, od) :: l, @LT.lt Nat _ q.1 a := by
  intro q hq
  rcases List.mem_cons.mp hq with rfl | hq
  · exact h1
  · exact ktn_ltOf h2 q hq
structure GSt where
  ks : List Value
  os : List Value
  nk : Nat
  no : Nat
  ns : List Nd
  c : Bool
  od : Obj
  tl : List (Addr × Obj)
def GSt.led (dr oa ka : Addr) (news : List (Addr × Obj)) (g : GSt) : List (Addr × Obj) := (dr, g.od) :: (oa, W.listOf g.os.toArray g.no) :: (ka, W.listOf g.ks.toArray g.nk) :: (g.tl ++ news)
structure GOk (prog : Program) (w : World) (cells : List Int) (dc : Addr) (own : Int) (isop : Bool) (I : Addr) (B j : Nat) (g : GSt) : Prop where
  fo : Fo g.tl (g.ks.filter (fun v => decide (v ≠ .none))) g.ns
  os : IntsAre g.os (own :: g.ns.map Nd.pl)
  c : g.c = (isop || g.ns.any isCall)
  row : ∃ pl, RowIs prog w cells dc pl g.od
  over : ∀ p ∈ g.tl, @LT.lt Nat _ I p.1
  nks : g.ks.length ≤ j
  nns : g.ns.length ≤ j * B
variable {env : Env} {x : Str} {body : List Stmt} {Q : Flow → Shared → Prop}
theorem grow_loop {r ka oa dr dc : Addr} {mn : Addr × Obj} {od : Obj} {cells : List Int} {own b : Int} {tw t₀ u₀ v₀ : Tok} {no nk : Nat} {isop : Bool} {pl : Int} {m₀ : Str → Option Value} (stored : List Str) (B : Nat) (hh : A.handled = none)
    (F : Fr h₀ env.locals s.heap m₀) (N : News h₀ env.locals s.heap ((dr, od) :: (oa, W.listOf #[Value.int own tw] no) :: (ka, W.listOf #[] nk) :: mn :: news)) (hr : IsRange s.heap r 0 b 1 t₀ u₀ v₀) (hb0 : 0 ≤ b) (hb1 : b ≤ 3)
    (hc : m₀ (Str.ofString "calls") = some (.bool isop)) (ho : m₀ (Str.ofString "order") = some (.ref oa)) (hrow : RowIs prog w cells dc pl od)
    (turn : ∀ (g : GSt) I it i t (u : Str → Option Value) h tk j, 0 < b → j < 3 → GOk prog w cells dc own isop I B j g → (∀ p ∈ (dr, od) :: (oa, W.listOf #[Value.int own tw] no) :: (ka, W.listOf #[] nk) :: news, @LT.lt Nat _ p.1 I) →
      Fr h₀ env.locals h (fun y => if y = x then some (.int i t) else if y = Str.ofString "calls" then some (.bool g.c) else if y = Str.ofString "order" then some (.ref oa) else if stored.contains y then u y else m₀ y) →
      News h₀ env.locals h ((I, it) :: g.led dr oa ka news) →
      wpAny (model prog w) A (execs body env) (UnrPost h₀ env.locals { s with heap := h, toks := tk } I it (fun m' n' => ∃ g' : GSt, n' = g'.led dr oa ka news ∧ GOk prog w cells dc own isop I B (j + 1) g' ∧ m' (Str.ofString "calls") = some (.bool g'.c) ∧ m' (Str.ofString "order") = some (.ref oa) ∧
        ∀ z, z ≠ x → z ≠ Str.ofString "calls" → z ≠ Str.ofString "order" → stored.contains z = false → m' z = m₀ z) Q) E { s with heap := h, toks := tk })
    (done : ∀ (g : GSt) I (u : Str → Option Value) h tk, GOk prog w cells dc own isop I B 3 g → (∀ p ∈ (dr, od) :: (oa, W.listOf #[Value.int own tw] no) :: (ka, W.listOf #[] nk) :: news, @LT.lt Nat _ p.1 I) →
      Fr h₀ env.locals h (fun y => if y = x then u y else if y = Str.ofString "calls" then some (.bool g.c) else if y = Str.ofString "order" then some (.ref oa) else if stored.contains y then u y else m₀ y) →
      News h₀ env.locals h (g.led dr oa ka news) → Q .next { s with heap := h, toks := tk }) :
    wpAny (model prog w) A (pyIter (.ref r)) (fun it s₂ => LoopAtV prog w A h₀ env x body Q E it s₂) E s := by
  have N0 : News h₀ env.locals s.heap ((GSt.mk [] [.int own tw] nk no [] isop od []).led dr oa ka news) := by
    intro p hp
    refine N p ?_
    unfold GSt.led at hp
    simp only [List.mem_cons, List.nil_append] at hp ⊢
    rcases hp with h | h | h | h
    · exact .inl h
    · exact .inr (.inl h)
    · exact .inr (.inr (.inl h))
    · exact .inr (.inr (.inr (.inr h)))
  refine iter_rangeUnr (n := b.toNat) hh hr (small_one (by omega) (by omega) (by omega) (by omega)) (by rw [rangeSize_nat]; congr 1; omega) F N0 ?_
  intro I hI
  have hI' : ∀ p ∈ (dr, od) :: (oa, W.listOf #[Value.int own tw] no) :: (ka, W.listOf #[] nk) :: news, @LT.lt Nat _ p.1 I := hI
  have key := range_S (prog := prog) (w := w) (A := A) (E := E) (s := s) (env := env) (h₀ := h₀) (x := x) (body := body) (Q := Q) (I := I) (a := 0) (n := b.toNat) (m₀ := m₀) (GSt.led dr oa ka news) (fun g => [(Str.ofString "calls", .bool g.c), (Str.ofString "order", .ref oa)]) stored
    (fun k g => GOk prog w cells dc own isop I B (3 - k) g ∧ k ≤ b.toNat) ?step ?done
  case step =>
    rintro k i g u t h tk hk ⟨hg, hkb⟩ F' N'
    have hb : 0 < b := by omega
    have hj : 3 - (k + 1) < 3 := by omega
    refine wpAny_mono (turn g I _ _ t u h tk (3 - (k + 1)) hb hj hg hI' F' N') (fun f s₂ p => unrPost_mono ?_ p) fun _ _ e => e
    rintro m' n' ⟨g', rfl, hg', h1, h2, h3⟩
    refine ⟨g', rfl, ?_, ?_, ?_, by omega⟩
    · intro p hp
      rcases List.mem_cons.mp hp with rfl | hp
      · exact h1
      · rw [List.mem_singleton.mp hp]; exact h2
    · intro z hz hz2 hs
      exact h3 z hz (hz2 _ List.mem_cons_self) (hz2 _ (List.mem_cons_of_mem _ List.mem_cons_self)) hs
    · have e : 3 - (k + 1) + 1 = 3 - k := by omega
      rw [e] at hg'
      exact hg'
  case done =>
    rintro g u h tk ⟨hg, _⟩ F' N'
    exact done g I u h tk hg hI' F' N'
  have e0 : GOk prog w cells dc own isop I B (3 - b.toNat) (GSt.mk [] [.int own tw] nk no [] isop od []) := by
    refine ⟨.nil, .cons _ _ .nil, by simp, ⟨pl, hrow⟩, (fun _ h => nomatch h), Nat.zero_le _, Nat.zero_le _⟩
  have R := key b.toNat 0 m₀ _ (by omega) ⟨GSt.mk [] [.int own tw] nk no [] isop od [], rfl, ?_, (fun _ _ _ _ => rfl), e0, Nat.le_refl _⟩
  · exact R
  · intro p hp
    rcases List.mem_cons.mp hp with rfl | hp
    · exact hc
    · rw [List.mem_singleton.mp hp]; exact ho

theorem tl_ne {a I : Addr} {tl l : List (Addr × Obj)} (ha : @LE.le Nat _ a I) (ho : ∀ p ∈ tl, @LT.lt Nat _ I p.1) (hn : ∀ p ∈ l, p.1 ≠ a) : ∀ p ∈ tl ++ l, p.1 ≠ a := by
  intro p hp
  rcases List.mem_append.mp hp with hp | hp
  · exact fun e => by
      have h1 := ho p hp
      rw [e] at h1
      exact absurd (Nat.lt_of_lt_of_le h1 ha) (Nat.lt_irrefl _)
  · exact hn p hp
theorem rec_back {h : Heap} {dr I oa ka : Addr} {od' it oo ko : Obj} {tl r : List (Addr × Obj)} (N : News h₀ L h ((dr, od') :: (tl ++ ((I, it) :: (oa, oo) :: (ka, ko) :: r)))) {od : Obj}
    (hov : ∀ q ∈ (dr, od) :: ((I, it) :: (oa, oo) :: (ka, ko) :: r), ∀ p ∈ tl, @LT.lt Nat _ q.1 p.1) (h1 : ∀ p ∈ r, p.1 ≠ dr) (h2 : ∀ p ∈ r, p.1 ≠ I) (h3 : ∀ p ∈ r, p.1 ≠ oa) (h4 : ∀ p ∈ r, p.1 ≠ ka) :
    News h₀ L h ((dr, od') :: (I, it) :: (oa, oo) :: (ka, ko) :: (tl ++ r)) ∧ (∀ p ∈ tl ++ r, p.1 ≠ dr) ∧ (∀ p ∈ tl ++ r, p.1 ≠ I) ∧ (∀ p ∈ tl ++ r, p.1 ≠ oa) ∧ (∀ p ∈ tl ++ r, p.1 ≠ ka) ∧ (∀ p ∈ tl, @LT.lt Nat _ I p.1) := by
  have one : ∀ q ∈ (dr, od) :: ((I, it) :: (oa, oo) :: (ka, ko) :: r), (∀ p ∈ r, p.1 ≠ q.1) → ∀ p ∈ tl ++ r, p.1 ≠ q.1 := fun q hq hr => tl_ne (Nat.le_refl _) (hov q hq) hr
  refine ⟨?_, one (dr, od) List.mem_cons_self h1, one (I, it) (List.mem_cons_of_mem _ List.mem_cons_self) h2, one (oa, oo) (List.mem_cons_of_mem _ (List.mem_cons_of_mem _ List.mem_cons_self)) h3,
    one (ka, ko) (List.mem_cons_of_mem _ (List.mem_cons_of_mem _ (List.mem_cons_of_mem _ List.mem_cons_self))) h4, hov (I, it) (List.mem_cons_of_mem _ List.mem_cons_self)⟩
  intro p hp
  refine N p ?_
  simp only [List.mem_cons, List.mem_append] at hp ⊢
  rcases hp with h | h | h | h | h | h <;> simp [h]

theorem turn_facts {dr oa ka I : Addr} {od oo ko : Obj} {l tl : List (Addr × Obj)} (hI : ∀ p ∈ (dr, od) :: (oa, oo) :: (ka, ko) :: l, @LT.lt Nat _ p.1 I) (hov : ∀ p ∈ tl, @LT.lt Nat _ I p.1) (hne : ∀ p ∈ l, p.1 ≠ dr) (hoa : AllLt oa l) (hka : AllLt ka l) :
    @LT.lt Nat _ dr I ∧ @LT.lt Nat _ oa I ∧ @LT.lt Nat _ ka I ∧ (∀ p ∈ tl ++ l, p.1 ≠ dr) ∧ (∀ p ∈ tl ++ l, p.1 ≠ I) ∧ (∀ p ∈ tl ++ l, p.1 ≠ oa) ∧ (∀ p ∈ tl ++ l, p.1 ≠ ka) := by
  have h1 : @LT.lt Nat _ dr I := hI (dr, od) List.mem_cons_self
  have h2 : @LT.lt Nat _ oa I := hI (oa, oo) (List.mem_cons_of_mem _ List.mem_cons_self)
  have h3 : @LT.lt Nat _ ka I := hI (ka, ko) (List.mem_cons_of_mem _ (List.mem_cons_of_mem _ List.mem_cons_self))
  exact ⟨h1, h2, h3, tl_ne (Nat.le_of_lt h1) hov hne, tl_ne (Nat.le_refl _) hov fun p hp => Nat.ne_of_lt (hI p (List.mem_cons_of_mem _ (List.mem_cons_of_mem _ (List.mem_cons_of_mem _ hp)))),
    tl_ne (Nat.le_of_lt h2) hov (tbn_neAll hoa), tl_ne (Nat.le_of_lt h3) hov (tbn_neAll hka)⟩

variable {cells : List Int} {dc dr oa ka I : Addr} {own : Int} {isop : Bool} {B j : Nat} {g : GSt} {it od' : Obj} {pl' : Int} {nk' no' : Nat} {m₀ m' : Str → Option Value} {s₁ : Shared} {h' : Heap} {tk : Nat} {stored : List Str}
theorem grow_end (g' : GSt) (F : Fr h₀ L h' m') (N : News h₀ L h' ((dr, g'.od) :: (I, it) :: (oa, W.listOf g'.os.toArray g'.no) :: (ka, W.listOf g'.ks.toArray g'.nk) :: (g'.tl ++ news))) (hg : GOk prog w cells dc own isop I B (j + 1) g') (f1 : @LT.lt Nat _ dr I) (f2 : @LT.lt Nat _ oa I) (f3 : @LT.lt Nat _ ka I)
    (f5 : ∀ p ∈ g'.tl ++ news, p.1 ≠ I) (hc : m' (Str.ofString "calls") = some (.bool g'.c)) (ho : m' (Str.ofString "order") = some (.ref oa)) (hm : ∀ z, z ≠ x → z ≠ Str.ofString "calls" → z ≠ Str.ofString "order" → stored.contains z = false → m' z = m₀ z) :
    UnrEnd h₀ L s₁ I it (fun m' n' => ∃ g' : GSt, n' = g'.led dr oa ka news ∧ GOk prog w cells dc own isop I B (j + 1) g' ∧ m' (Str.ofString "calls") = some (.bool g'.c) ∧ m' (Str.ofString "order") = some (.ref oa) ∧
        ∀ z, z ≠ x → z ≠ Str.ofString "calls" → z ≠ Str.ofString "order" → stored.contains z = false → m' z = m₀ z) { s₁ with heap := h', toks := tk } := by
  refine UnrEnd.intro F N (g'.led dr oa ka news) (fun p hp => ?_) (fun p hp => ?_) ⟨g', rfl, hg, hc, ho, hm⟩
  · unfold GSt.led at hp
    simp only [List.mem_cons] at hp ⊢
    rcases hp with h | h | h | h | h <;> simp [h]
  · unfold GSt.led at hp
    rcases List.mem_cons.mp hp with rfl | hp
    · exact Nat.ne_of_lt f1
    · rcases List.mem_cons.mp hp with rfl | hp
      · exact Nat.ne_of_lt f2
      · rcases List.mem_cons.mp hp with rfl | hp
        · exact Nat.ne_of_lt f3
        · exact f5 p hp
theorem grow_end_none (hg : GOk prog w cells dc own isop I B j g) (hro : RowIs prog w cells dc pl' od') (f1 : @LT.lt Nat _ dr I) (f2 : @LT.lt Nat _ oa I) (f3 : @LT.lt Nat _ ka I) (f5 : ∀ p ∈ g.tl ++ news, p.1 ≠ I)
    (F : Fr h₀ L h' m') (N : News h₀ L h' ((dr, od') :: (I, it) :: (oa, W.listOf g.os.toArray no') :: (ka, W.listOf (g.ks ++ [Value.none]).toArray nk') :: (g.tl ++ news)))
    (hc : m' (Str.ofString "calls") = some (.bool g.c)) (ho : m' (Str.ofString "order") = some (.ref oa)) (hm : ∀ z, z ≠ x → z ≠ Str.ofString "calls" → z ≠ Str.ofString "order" → stored.contains z = false → m' z = m₀ z) :
    UnrEnd h₀ L s₁ I it (fun m' n' => ∃ g' : GSt, n' = g'.led dr oa ka news ∧ GOk prog w cells dc own isop I B (j + 1) g' ∧ m' (Str.ofString "calls") = some (.bool g'.c) ∧ m' (Str.ofString "order") = some (.ref oa) ∧
        ∀ z, z ≠ x → z ≠ Str.ofString "calls" → z ≠ Str.ofString "order" → stored.contains z = false → m' z = m₀ z) { s₁ with heap := h', toks := tk } := by
  refine grow_end ⟨g.ks ++ [.none], g.os, nk', no', g.ns, g.c, od', g.tl⟩ F N ⟨?_, hg.os, hg.c, ⟨_, hro⟩, hg.over, ?_, ?_⟩ f1 f2 f3 f5 hc ho hm
  · dsimp only
    rw [List.filter_append]
    simpa using hg.fo
  · have := hg.nks
    simp only [List.length_append, List.length_cons, List.length_nil]
    omega
  · exact Nat.le_trans hg.nns (Nat.mul_le_mul_right B (Nat.le_succ j))
theorem grow_end_kid {tl' : List (Addr × Obj)} {x' : Addr} {ns' : List Nd} {ovs' : List Value} {c' : Bool} (hg : GOk prog w cells dc own isop I B j g) (hro : RowIs prog w cells dc pl' od') (f1 : @LT.lt Nat _ dr I) (f2 : @LT.lt Nat _ oa I) (f3 : @LT.lt Nat _ ka I)
    (hfo : Fo tl' [.ref x'] ns') (hints : IntsAre ovs' (ns'.map Nd.pl)) (hlen : ns'.length ≤ B) (m5 : ∀ p ∈ tl', @LT.lt Nat _ I p.1) (f5 : ∀ p ∈ tl' ++ (g.tl ++ news), p.1 ≠ I) (hcc : c' = (g.c || ns'.any isCall))
    (F : Fr h₀ L h' m') (N : News h₀ L h' ((dr, od') :: (I, it) :: (oa, W.listOf (g.os ++ ovs').toArray no') :: (ka, W.listOf (g.ks ++ [Value.ref x']).toArray nk') :: (tl' ++ (g.tl ++ news))))
    (hc : m' (Str.ofString "calls") = some (.bool c')) (ho : m' (Str.ofString "order") = some (.ref oa)) (hm : ∀ z, z ≠ x → z ≠ Str.ofString "calls" → z ≠ Str.ofString "order" → stored.contains z = false → m' z = m₀ z) :
    UnrEnd h₀ L s₁ I it (fun m' n' => ∃ g' : GSt, n' = g'.led dr oa ka news ∧ GOk prog w cells dc own isop I B (j + 1) g' ∧ m' (Str.ofString "calls") = some (.bool g'.c) ∧ m' (Str.ofString "order") = some (.ref oa) ∧
        ∀ z, z ≠ x → z ≠ Str.ofString "calls" → z ≠ Str.ofString "order" → stored.contains z = false → m' z = m₀ z) { s₁ with heap := h', toks := tk } := by
  rw [← List.append_assoc] at N f5
  refine grow_end ⟨g.ks ++ [.ref x'], g.os ++ ovs', nk', no', g.ns ++ ns', c', od', tl' ++ g.tl⟩ F N ⟨?_, ?_, ?_, ⟨_, hro⟩, ?_, ?_, ?_⟩ f1 f2 f3 f5 hc ho hm
  · dsimp only
    rw [List.filter_append]
    exact (hg.fo.mono fun p hp => List.mem_append.mpr (.inr hp)).append (by simpa using hfo.mono fun p hp => List.mem_append.mpr (.inl hp))
  · dsimp only
    rw [List.map_append, ← List.cons_append]
    exact hg.os.append hints
  · dsimp only
    rw [hcc, hg.c, List.any_append, Bool.or_assoc]
  · intro p hp
    rcases List.mem_append.mp hp with hp | hp
    · exact m5 p hp
    · exact hg.over p hp
  · have := hg.nks
    simp only [List.length_append, List.length_cons, List.length_nil]
    omega
  · have h1 := hg.nns
    simp only [List.length_append]
    rw [Nat.succ_mul]
    omega
end
end
section
section
/-- an object of the class Types: its field integer -/
def TypesAt (news : List (Addr × Obj)) (x : Addr) : Prop :=
  ∃ (dx : Addr) (es : List DictEntry) (n : Nat) (ti : Addr), (x, instObj 145 dx) ∈ news ∧ (dx, dictOf es n) ∈ news ∧ getL (Str.ofString "integer") es = some (some (.ref ti))
theorem TypesAt.mono {news news' : List (Addr × Obj)} {x : Addr} (h : TypesAt news x) (hs : ∀ p ∈ news, p ∈ news') : TypesAt news' x := by
  obtain ⟨dx, es, n, ti, h1, h2, h3⟩ := h
  exact ⟨dx, es, n, ti, hs _ h1, hs _ h2, h3⟩
theorem types_close {h₀ h : Heap} {L d x ti : Addr} {es : List DictEntry} {n : Nat} {kd : Addr × Obj} {l : List (Addr × Obj)} (N : News h₀ L h ((d, dictOf es n) :: kd :: (x, instObj 145 d) :: l)) (hi : getL (Str.ofString "integer") es = some (some (.ref ti)))
    (l1 : ∀ p ∈ l, @LT.lt Nat _ p.1 d) (l2 : @LT.lt Nat _ d x) : ∃ tl, News h₀ L h (tl ++ l) ∧ TypesAt tl x ∧ ∀ q ∈ l, ∀ p ∈ tl, @LT.lt Nat _ q.1 p.1 := by
  refine ⟨[(x, instObj 145 d), (d, dictOf es n)], fun p hp => N p ?_, ⟨d, es, n, ti, List.mem_cons_self, List.mem_cons_of_mem _ List.mem_cons_self, hi⟩, fun q hq p hp => ?_⟩
  · simp only [List.mem_cons, List.cons_append, List.nil_append] at hp ⊢
    rcases hp with h | h | h <;> simp [h]
  · rcases List.mem_cons.mp hp with rfl | hp
    · exact Nat.lt_trans (l1 q hq) l2
    · rw [List.mem_singleton.mp hp]
      exact l1 q hq
abbrev tup3 (a b c : Value) (n : Nat) : Obj := { cls := .type "tuple", data := .seq #[a, b, c] n }
def sizeAt : Nat → Nat
  | 0 => 1
  | k + 1 => 1 + 3 * sizeAt k
def sizeB : Nat → Nat
  | 0 => 0
  | k + 1 => sizeAt k
theorem sizeAt_eq : ∀ k, sizeAt k = 1 + 3 * sizeB k
  | 0 => rfl
  | _ + 1 => rfl
theorem sizeAt_le {k : Nat} (h : k ≤ 4) : sizeAt k ≤ 121 := by
  match k, h with
  | 0, _ => decide
  | 1, _ => decide
  | 2, _ => decide
  | 3, _ => decide
  | 4, _ => decide
theorem mul_size {n j B : Nat} (h : n ≤ j * B) (hj : j < 3) (hB : B ≤ 121) : n ≤ 242 := by
  have h1 : j * B ≤ 2 * B := Nat.mul_le_mul_right B (by omega)
  omega
/-- what _law_grown gives back -/
structure Grew (prog : Program) (w : World) (cells : List Int) (dc dr : Addr) (news : List (Addr × Obj)) (k : Nat) (od : Obj) (tl : List (Addr × Obj)) (r : Value) : Prop where
  row : ∃ pl, RowIs prog w cells dc pl od
  over : ∀ q ∈ (dr, od) :: news, ∀ p ∈ tl, @LT.lt Nat _ q.1 p.1
  back : ∃ (t x oa : Addr) (ns : List Nd) (ovs : List Value) (nt no : Nat), r = .ref t ∧ (t, tup3 (.ref x) (.ref oa) (.bool (ns.any isCall)) nt) ∈ tl ∧ Fo tl [.ref x] ns ∧ (oa, W.listOf ovs.toArray no) ∈ tl ∧ IntsAre ovs (ns.map Nd.pl) ∧ ns.length ≤ sizeAt k
/-- the contract of _law_grown, k levels above the deepest -/
structure Grows (prog : Program) (w : World) (p : Program) (loose : List Str) (mean : ExcName → Option Value) (mg mb : Str → Option Value) (f : Addr) (k : Nat) : Prop where
  use : ∀ {dp un : Nat} {gd : Option (List Code)} {cn : Str} {cs : Scope} {a : Addr} {ccd : Value} {cl : List (Str × Addr)} {outer : List Env} {A₀ : Around} {base h₀ : Heap} {L : Addr} {m : Str → Option Value} {news : List (Addr × Obj)} {s : Shared}
    {dr dc ta : Addr} {od : Obj} {cells : List Int} {pl d : Int} {t3 : Tok} {Q E : Value → Shared → Prop}, d + (k : Int) = 4 →
    Below A₀ base outer h₀ → Fr h₀ L s.heap m → Frag.In (_root_.Mine.hd.heap_39 w.params) h₀ → News h₀ L s.heap ((dr, od) :: news) → Top p loose mean mg mb h₀ → cs.kind = .function →
    (∀ p ∈ news, p.1 ≠ dr) → RowIs prog w cells dc pl od → CellsIn news dc cells → TypesAt news ta → dp + (10 + 10 * k) < recursionLimit → un + (80 + 80 * k) < cLine →
    (∀ r od' tl h' tk', Fr h₀ L h' m → News h₀ L h' ((dr, od') :: (tl ++ news)) → Grew prog w cells dc dr news k od' tl r → Q r { s with heap := h', toks := tk' }) →
    wpAny (model prog w) (ktrTop dp un gd cn cs L a ccd cl outer) (call (.ref f) [.ref dr, .ref ta, .int d t3]) Q E s
variable {prog : Program} {w : World} {p : Program} {loose : List Str} {mean : ExcName → Option Value} {mg mb : Str → Option Value}
theorem grows_use {f : Addr} {k : Nat} (G : Grows prog w p loose mean mg mb f k)
    {dp un : Nat} {gd : Option (List Code)} {cn : Str} {cs : Scope} {a : Addr} {ccd : Value} {cl : List (Str × Addr)} {outer : List Env} {A₀ : Around} {base h₀ : Heap} {L : Addr} {m : Str → Option Value} {news : List (Addr × Obj)} {s : Shared}
    {dr dc ta : Addr} {od : Obj} {cells : List Int} {pl d : Int} {t3 : Tok} {Q E : Value → Shared → Prop} (hd : d + (k : Int) = 4)
    (B : Below A₀ base outer h₀) (F : Fr h₀ L s.heap m) (X : Frag.In (_root_.Mine.hd.heap_39 w.params) h₀) (N : News h₀ L s.heap ((dr, od) :: news)) (T : Top p loose mean mg mb h₀) (hk : cs.kind = .function)
    (hne : ∀ p ∈ news, p.1 ≠ dr) (hro : RowIs prog w cells dc pl od) (hce : CellsIn news dc cells) (hty : TypesAt news ta) (hdp : dp + (10 + 10 * k) < recursionLimit) (hun : un + (80 + 80 * k) < cLine)
    (hret : ∀ r od' tl h' tk', Fr h₀ L h' m → News h₀ L h' ((dr, od') :: (tl ++ news)) → Grew prog w cells dc dr news k od' tl r → Q r { s with heap := h', toks := tk' }) :
    wpAny (model prog w) (ktrTop dp un gd cn cs L a ccd cl outer) (call (.ref f) [.ref dr, .ref ta, .int d t3]) Q E s   := G.use hd B F X N T hk hne hro hce hty hdp hun hret
end
end
section
section
variable {prog : Program} {w : World}
theorem grow_close {h₀ h' : Heap} {L : Addr} {cells : List Int} {dc dr oa ka I D x d : Addr} {own : Int} {op : Str} {k nt n : Nat} {es : List DictEntry} {od : Obj} {oo ko : Obj} {news : List (Addr × Obj)} {g : GSt} {t1 t2 : Tok} {val : Value}
    (N : News h₀ L h' ((D, tup3 (.ref x) (.ref oa) (.bool g.c) nt) :: (x, instObj 32 d) :: (d, dictOf es n) :: (dr, g.od) :: (oa, W.listOf g.os.toArray g.no) :: (ka, W.listOf g.ks.toArray g.nk) :: (g.tl ++ news)))
    (hg : GOk prog w cells dc own (op == Str.ofString "call") I (sizeB k) 3 g) (hI : ∀ p ∈ (dr, od) :: (oa, oo) :: (ka, ko) :: news, @LT.lt Nat _ p.1 I)
    (gop : getL (Str.ofString "op") es = some (some (.str op t1))) (gpl : getL (Str.ofString "place") es = some (some (.int own t2))) (gka : getL (Str.ofString "kids") es = some (some (.ref ka))) (gval : getL (Str.ofString "value") es = some (some val))
    (o1 : AllLt d (g.tl ++ news)) (o2 : @LT.lt Nat _ d x) (o3 : @LT.lt Nat _ x D) (o4 : @LT.lt Nat _ dr ka) (o5 : @LT.lt Nat _ ka oa) (o6 : AllLt ka news) (o8 : @LT.lt Nat _ dr d) :
    ∃ tl, News h₀ L h' ((dr, g.od) :: (tl ++ news)) ∧ Grew prog w cells dc dr news k g.od tl (.ref D) := by
  refine ⟨(D, tup3 (.ref x) (.ref oa) (.bool g.c) nt) :: (x, instObj 32 d) :: (d, dictOf es n) :: (oa, W.listOf g.os.toArray g.no) :: (ka, W.listOf g.ks.toArray g.nk) :: g.tl, ?_, ?_⟩
  · intro p hp
    refine N p ?_
    simp only [List.mem_cons, List.cons_append, List.mem_append] at hp ⊢
    rcases hp with h | h | h | h | h | h | h | h <;> simp [h]
  · refine ⟨hg.row, ?_, D, x, oa, ⟨x, op, own⟩ :: (g.ns ++ []), g.os, nt, g.no, rfl, ?_, ?_, ?_, ?_, ?_⟩
    · have low : ∀ q ∈ (dr, g.od) :: news, @LT.lt Nat _ q.1 ka ∧ @LT.lt Nat _ q.1 d ∧ @LT.lt Nat _ q.1 I := by
        intro q hq
        rcases List.mem_cons.mp hq with rfl | hq
        · exact ⟨o4, o8, hI (dr, od) List.mem_cons_self⟩
        · exact ⟨ktn_ltOf o6 q hq, ktn_ltOf o1 q (List.mem_append.mpr (.inr hq)), hI q (List.mem_cons_of_mem _ (List.mem_cons_of_mem _ (List.mem_cons_of_mem _ hq)))⟩
      intro q hq p hp
      obtain ⟨a1, a2, a3⟩ := low q hq
      simp only [List.mem_cons] at hp
      rcases hp with rfl | rfl | rfl | rfl | rfl | hp
      · exact Nat.lt_trans a2 (Nat.lt_trans o2 o3)
      · exact Nat.lt_trans a2 o2
      · exact a2
      · exact Nat.lt_trans a1 o5
      · exact a1
      · exact Nat.lt_trans a3 (hg.over p hp)
    · have e : g.c = List.any (⟨x, op, own⟩ :: (g.ns ++ [])) isCall := by
        rw [hg.c, List.append_nil, List.any_cons]
        rfl
      rw [e]
      exact List.mem_cons_self
    · refine .node ⟨d, es, n, t1, t2, ?_, ?_, gop, gpl, gka, gval⟩ (nk := g.nk) (kids := g.ks) ?_ (hg.fo.mono fun p hp => List.mem_cons_of_mem _ (List.mem_cons_of_mem _ (List.mem_cons_of_mem _ (List.mem_cons_of_mem _ (List.mem_cons_of_mem _ hp))))) .nil <;> simp
    · simp
    · rw [List.append_nil]
      exact hg.os
    · have h1 := hg.nns
      rw [List.append_nil, sizeAt_eq, List.length_cons]
      omega
end
end
end
section
section
section
variable {prog : Program} {w : World}
theorem isStr_self (name : Str) (tk : Tok) : (Value.str name tk).isStr name = true := by show (name == name) = true; simp
theorem set_head {A : Around} {E : Value → Shared → Prop} {s : Shared} {K : Frag} {x C dx L : Addr} {h₀ : Heap} {m : Str → Option Value} {news news' : List (Addr × Obj)} {ox : Obj} {r : List DictEntry} {n : Nat} {name : Str} {v v0 : Value} {hh0 : Int} {tk : Tok} {Q : Unit → Shared → Prop}
    (F : Fr h₀ L s.heap m) (X₀ : K.In h₀) (N : News h₀ L s.heap news) (I : InstAt s.heap x ox C (some (dictOf (⟨hh0, .str name tk, v0⟩ :: r) n))) (hd : ox.dict = some dx)
    (hs : findIn K (.ref C) "__setattr__" = some (some (.builtin "object.__setattr__"))) (hp : plainOver K C = true) (ht : takerIn K C name = some none) (hh : hasDictIn K C = true)
    (U : Upd dx (dictOf (⟨hh0, .str name tk, v0⟩ :: r) n) (dictOf (⟨hh0, .str name tk, v⟩ :: r) n) news news') (hz : r.length ≤ 900)
    (h : ∀ h', Fr h₀ L h' m → News h₀ L h' news' → Q () { s with heap := h', toks := s.toks + 2 }) : wpAny (model prog w) A (setAttr (.ref x) name v) Q E s := by
  refine set_dict F X₀ N I hd hs hp ht hh ?_ ?_ U ?_ h
  · unfold getL
    rw [List.find?_cons_of_pos (by exact isStr_self name tk)]
    rfl
  · simp only [putL, putN, isStr_self, if_true, List.any_cons, Bool.true_or]
  · simp only [List.length_cons]; omega
theorem news_pick {h₀ h : Heap} {L dx : Addr} {o : Obj} {all l : List (Addr × Obj)} (N : News h₀ L h all) (hm : (dx, o) ∈ all) (hs : ∀ p ∈ l, p ∈ all) : News h₀ L h ((dx, o) :: l) := fun p hp => by
  rcases List.mem_cons.mp hp with rfl | hp
  · exact N _ hm
  · exact N _ (hs p hp)
theorem my_units (A : Around) (C : Addr) (vals : List Value) : (A.under (.builtin "type.__call__" ⟨.ref C :: vals, []⟩)).units = A.units + 1 := rfl
end
end
end
end Mine
namespace Mine
section
example : True := by w_top off; trivial
local macro_rules | `(tactic| k_room) => `(tactic| ktr_room)
local macro_rules | `(tactic| walk_at "setAttr ref") => `(tactic| (k_here; k_dflt (refine' set_head ?k1 ?k2 ?k3 ?k4 ?k5 ?k6 ?k7 ?k8 ?k9 ?k10 ?k11 ?_; (case k1 => k_asm); (case k2 => k_asm); (case k3 => k_asm); (case k4 => walk_at "my inst"); (case k5 => rfl); (case k6 => k_is); (case k7 => k_is); (case k8 => k_is); (case k9 => k_is); (case k10 => k_upd); (case k11 => omega); k_whole); intro h' F' N'))
section
section
variable {prog : Program} {w : World} {p : Program} {loose : List Str} {mean : ExcName → Option Value} {mg mb : Str → Option Value}
theorem new_says {dp un : Nat} {gd : Option (List Code)} {cn : Str} {cs : Scope} {a : Addr} {ccd : Value} {cl : List (Str × Addr)} {outer : List Env} {A₀ : Around} {base h₀ : Heap} {L : Addr} {m : Str → Option Value} {news : List (Addr × Obj)} {s : Shared}
    {x dx : Addr} {hh c size : Int} {tk t t1 t2 : Tok} {r : List DictEntry} {n : Nat} {form : Str}
    {Q E : Value → Shared → Prop}
    (B : Below A₀ base outer h₀) (F : Fr h₀ L s.heap m) (X : Frag.In (hd.heap_39 w.params) h₀) (N : News h₀ L s.heap ((dx, dictOf (⟨hh, .str (Str.ofString "counter") tk, .int c t⟩ :: r) n) :: news)) (T : Top p loose mean mg mb h₀) (hk : cs.kind = .function)
    (hx : (x, instObj 145 dx) ∈ news) (hne : ∀ p ∈ news, p.1 ≠ dx) (hr : r.length ≤ 20)
    (hdp : dp + 6 < recursionLimit) (hun : un + 48 < cLine)
    (hret : ∀ y t' h' tk', Fr h₀ L h' m → News h₀ L h' ((dx, dictOf (⟨hh, .str (Str.ofString "counter") tk, .int (c + 1) t'⟩ :: r) n) :: news) → Q (.ref y) { s with heap := h', toks := tk' }) :
    wpAny (model prog w) (ktrTop dp un gd cn cs L a ccd cl outer) (call (.ref (ktf_meth% "Types" "new")) [.ref x, .str form t1, .int size t2]) Q E s := by
    refine wpAny_call ?_
    k_dflt (refine' code_def ?k1 ?k2 ?k3 ?k4 ?k5 ?kA ?kF ?kK ?k6 ?k7 ?k8 ?k9 ?kB ?_ ?c2 ?c3 ?c4 ?c5; (case kA => exact rfl); (case kF => exact rfl); (case kK => assumption); (case k1 => k_asm); (case k2 => k_asm); (case k3 => k_asm); (case k4 => k_asm); (case k5 => k_asm); (case k6 => k_is); (case k7 => k_is); (case k8 => ktr_room); (case k9 => exact binds_K (by k_in) rfl (by k_is) rfl rfl rfl); (case c5 => decide); (case kB => exact locs rfl); (case c2 => exact rfl); (case c3 => exact rfl); (case c4 => exact rfl); k_whole; intro g' L' h' FG' F' N' B' X' T'; (try dsimp only); (try k_fold))
    k_steps
    (rename Fr h₀ L _ _ => F9)
    (rename News h₀ L _ _ => N9)
    exact hret _ _ _ _ F9 (news_pick N9 (by k_mem) (by intro p hp; repeat (first | exact hp | refine List.mem_cons_of_mem _ ?_)))
end
end
end
end Mine
namespace Mine
section
example : True := by w_top off; trivial
local macro_rules | `(tactic| ktr_units) => `(tactic| (have hcL9 := cLine_is; (simp only [my_units, units_deeper] at *); (try dsimp only [ktrTop] at *); omega))
local macro_rules | `(tactic| k_room) => `(tactic| ktr_room)
local macro_rules | `(tactic| walk_at "call ref") => `(tactic| (k_here; (with_reducible show wpAny _ _ (call (Value.ref 135) _) _ _ _); k_dflt (refine' new_says ?k1 ?k2 ?k3 ?k4 ?k5 ?kK ?hx ?hne ?hr ?kd ?ku ?_; (case k1 => k_asm); (case k2 => k_asm); (case k3 => k_asm); (case k4 => walk_at "my up"); (case k5 => k_asm); (case kK => walk_at "my ral"); (case hx => k_mem); (case hne => k_all); (case hr => exact Nat.le_of_ble_eq_true rfl); (case kd => ktr_room); (case ku => ktr_units); intro y' t' h' tk' F' N')))
local macro_rules | `(tactic| walk_at "no place") => `(tactic| fail)
section
section
variable {prog : Program} {w : World} {p : Program} {loose : List Str} {mean : ExcName → Option Value} {mg mb : Str → Option Value}
theorem types_says {dp un : Nat} {gd : Option (List Code)} {cn : Str} {cs : Scope} {a : Addr} {ccd : Value} {cl : List (Str × Addr)} {outer : List Env} {A₀ : Around} {base h₀ : Heap} {L : Addr} {m : Str → Option Value} {news : List (Addr × Obj)} {s : Shared}
    {Q E : Value → Shared → Prop}
    (B : Below A₀ base outer h₀) (F : Fr h₀ L s.heap m) (X : Frag.In (hd.heap_39 w.params) h₀) (N : News h₀ L s.heap news) (T : Top p loose mean mg mb h₀) (hk : cs.kind = .function)
    (hdp : dp + 12 < recursionLimit) (hun : un + 96 < cLine)
    (hret : ∀ y tl h' tk', Fr h₀ L h' m → News h₀ L h' (tl ++ news) → TypesAt tl y → (∀ q ∈ news, ∀ p ∈ tl, @LT.lt Nat _ q.1 p.1) → Q (.ref y) { s with heap := h', toks := tk' }) :
    wpAny (model prog w) (ktrTop dp un gd cn cs L a ccd cl outer) (call (.ref 145) []) Q E s := by
    refine' call_cls ?k1 ?k2 ?k3 ?k4 ?k5 ?k6 ?_
    (case k1 => k_asm)
    (case k2 => k_asm)
    (case k3 => k_asm)
    (case k4 => k_is)
    (case k5 => k_is)
    (case k6 => k_is)
    intro x' d' h' F' N' l1 l2
    try k_lt l1
    try k_lt2 l2
    k_sweep
    k_dflt (refine' code_def ?k1 ?k2 ?k3 ?k4 ?k5 ?kA ?kF ?kK ?k6 ?k7 ?k8 ?k9 ?kB ?_ ?c2 ?c3 ?c4 ?c5; (case kA => exact rfl); (case kF => exact rfl); (case kK => assumption); (case k1 => k_asm); (case k2 => k_asm); (case k3 => k_asm); (case k4 => k_asm); (case k5 => k_asm); (case k6 => k_is); (case k7 => k_is); (case k8 => ktr_room); (case k9 => exact BindsTo.of_eq rfl); (case c5 => decide); (case kB => exact locs rfl); (case c2 => exact rfl); (case c3 => exact rfl); (case c4 => exact rfl); k_whole; intro g' L' h' FG' F' N' B' X' T'; (try dsimp only); (try k_fold))
    k_steps
    (rename Fr h₀ L _ _ => F9)
    (rename News h₀ L _ _ => N9)
    obtain ⟨tl9, M9, T9, O9⟩ := types_close N9 (by k_get) l1 l2
    exact hret _ _ _ _ F9 M9 T9 O9
end
end
end
end Mine
namespace Mine
section
example : True := by w_top off; trivial
local macro_rules | `(tactic| k_room) => `(tactic| ktr_room)
local macro_rules | `(tactic| walk_at "call ref") => `(tactic| (k_here; (with_reducible show wpAny _ _ (call (Value.ref 156) _) _ _ _); k_dflt (refine' figure_says ?k1 ?k2 ?k3 ?k4 ?k5 ?kK ?hne ?hro ?hce ?m0 ?m1 ?kd ?ku ?_; (case k1 => k_asm); (case k2 => k_asm); (case k3 => k_asm); (case k4 => walk_at "my up"); (case k5 => k_asm); (case kK => walk_at "my ral"); (case hne => k_all); (case hro => walk_at "my row"); (case hce => walk_at "my ce"); (case m0 => decide); (case m1 => decide); (case kd => ktr_room); (case ku => ktr_units); intro r' t' od' h' tk' hr0' hr1' hro' F' N'; (have hro2' := hro'; obtain ⟨i', u1', u2', hi0', hi1', hod'⟩ := hro2'))))
local macro_rules | `(tactic| walk_at "subscriptTail") => `(tactic| (k_here; (with_reducible show wpAny _ _ (subscriptTail _ _ (Value.ref _) (Value.int _ _)) _ _ _); (with_unfolding_all refine' item5 ?k1 ?k2 ?k3 ?k4 ?_ ?k6; (case k1 => k_asm); (case k2 => k_mem); (case k3 => assumption); (case k4 => assumption); (case k6 => with_unfolding_all rfl); k_whole); intro op' t'))
local macro_rules | `(tactic| walk_at "call type:range") => `(tactic| (k_here; (rename Fr _ _ _ _ => F'); (rename News _ _ _ _ => N'); (with_unfolding_all refine range1_rows F' N' ?_); intro h' tk' q1' q2' q3' R' F' N' ke'))
local macro_rules | `(tactic| walk_at "call ref") => `(tactic| (k_here; (with_reducible show wpAny _ _ (call (Value.ref 163) _) _ _ _); k_dflt (refine' grows_use ?G ?hd ?k1 ?k2 ?k3 ?k4 ?k5 ?kK ?hne ?hro ?hce ?hty ?kd ?ku ?_; (case G => assumption); (case hd => omega); (case k1 => k_asm); (case k2 => k_asm); (case k3 => k_asm); (case k4 => walk_at "my up"); (case k5 => k_asm); (case kK => walk_at "my ral"); (case hne => k_all); (case hro => walk_at "my row"); (case hce => walk_at "my ce"); (case hty => exact TypesAt.mono (by assumption) (by walk_at "my sub")); (case kd => ktr_room); (case ku => ktr_units); intro r' od' tl' h' tk' F' N' G'; obtain ⟨⟨pl', hro'⟩, hov', t', x', oa', ns', ovs', nt', no', e', htup', hfo', hoa', hints', hlen'⟩ := G'; subst e'; (have q1' := IntsAre.length hints'); (have q2' := Fo.len hfo'); simp only [List.length_map, List.length_cons, List.length_nil] at q1' q2'; obtain ⟨N', m1', m2', m3', m4', m5'⟩ := rec_back N' hov' (by assumption) (by assumption) (by assumption) (by assumption))))
local macro_rules | `(tactic| walk_at "inplaceOp Add ref ref") => `(tactic| (k_here; k_dflt (refine' my_iadd ?k1 ?k2 ?k3 ?k4 ?k5 ?k6 ?_; (case k1 => k_asm); (case k2 => k_asm); (case k3 => k_mem); (case k5 => k_upd); (case k4 => omega); (case k6 => omega); k_whole); intro h' F' N'))
local macro_rules | `(tactic| walk_at "call ref") => `(tactic| (k_here; (with_reducible show wpAny _ _ (call (Value.ref 32) [_, _, _, _, _]) _ _ _); k_dflt (refine' node5_says ?k1 ?k2 ?k3 ?k4 ?k5 ?kK ?kd ?_; (case k1 => k_asm); (case k2 => k_asm); (case k3 => k_asm); (case k4 => walk_at "my up"); (case k5 => k_asm); (case kK => walk_at "my ral"); (case kd => ktr_room); (iterate 16 (intro _)); intro F' N' l1' l2'); (try k_lt l1'); (try k_lt2 l2'); (try k_sweep)))
local macro_rules | `(tactic| walk_at "call ref") => `(tactic| (k_here; (with_reducible show wpAny _ _ (call (Value.ref 32) [_, _, _, _]) _ _ _); k_dflt (refine' node4_says ?k1 ?k2 ?k3 ?k4 ?k5 ?kK ?kd ?_; (case k1 => k_asm); (case k2 => k_asm); (case k3 => k_asm); (case k4 => walk_at "my up"); (case k5 => k_asm); (case kK => walk_at "my ral"); (case kd => ktr_room); (iterate 16 (intro _)); intro F' N' l1' l2'); (try k_lt l1'); (try k_lt2 l2'); (try k_sweep)))
local macro_rules | `(tactic| walk_at "call ref") => `(tactic| (k_here; (with_reducible show wpAny _ _ (call (Value.ref 109) [_, _, _, _]) _ _ _); k_dflt (refine' obj_says ?k1 ?k2 ?k3 ?k4 ?k5 ?kK ?kd ?_; (case k1 => k_asm); (case k2 => k_asm); (case k3 => k_asm); (case k4 => walk_at "my up"); (case k5 => k_asm); (case kK => walk_at "my ral"); (case kd => ktr_room); (iterate 37 (intro _)); intro F' N' l1' l2'); (try k_lt l1'); (try k_lt2 l2'); (try k_sweep)))
section
section
variable {prog : Program} {w : World} {p : Program} {loose : List Str} {mean : ExcName → Option Value} {mg mb : Str → Option Value}
theorem grown_step (k : Nat) (hk4 : k ≤ 4) (hrec : ∀ k', k = k' + 1 → Grows prog w p loose mean mg mb 163 k') : Grows prog w p loose mean mg mb 163 k := by
    constructor
    intro dp un gd cn cs a ccd cl outer A₀ base h₀ L m news s dr dc ta od cells pl d t3 Q E hdk B F X N T hk hne hro hce hty hdp hun hret
    obtain ⟨i, t1, t2, hi0, hi1, hod⟩ := id hro
    refine wpAny_call ?_
    k_dflt ktr_enter
    k_steps
    all_goals (
      refine (show wpAny _ _ _ _ _ _ from ?_)
      (rename Fr _ _ _ _ => lF')
      (rename News _ _ _ _ => lN')
      (rename IsRange _ _ _ _ _ _ _ _ => lR')
      with_unfolding_all refine grow_loop [Str.ofString "kid", Str.ofString "more", Str.ofString "called"] (sizeB k) rfl lF' (by first | exact lN' | exact news_up2 lN') lR' (by omega) (by omega) (by rfl) (by rfl) (by assumption) ?turn ?done
      clear lF' lN' lR'
      case turn =>
        intro g I it i t u h tk j hb hj hg hI F' N'
        first
          | exact absurd hb (by omega)
          | (obtain ⟨k', rfl⟩ : ∃ k', k = k' + 1 := ⟨k - 1, by omega⟩
             have hG := hrec k' rfl
             obtain ⟨f1, f2, f3, f4, f5, f6, f7⟩ := turn_facts hI hg.over hne (by tbn_find) (by tbn_find)
             obtain ⟨pl2, hrow2⟩ := hg.row
             have hnk := hg.nks
             have hsz := sizeAt_le (k := k') (by omega)
             have hnn := mul_size hg.nns hj hsz
             have hosl := hg.os.length
             simp only [List.length_map, List.length_cons] at hosl
             dsimp only [GSt.led] at N'
             k_steps
             · refine grow_end_none hg (by assumption) f1 f2 f3 f5 (by assumption) (by assumption) (by rfl) (by rfl) ?_
               intro z z1 z2 z3 z4
               have hk : z ≠ Str.ofString "kid" := by intro e; subst e; revert z4; decide
               have hm : z ≠ Str.ofString "more" := by intro e; subst e; revert z4; decide
               have hcd : z ≠ Str.ofString "called" := by intro e; subst e; revert z4; decide
               simp only [if_neg z1, if_neg z2, if_neg z3, if_neg hk, if_neg hm, if_neg hcd, z4, Bool.false_eq_true, if_false]
             · (rename g.c = true => hgc)
               refine grow_end_kid (c' := g.c) hg (by assumption) f1 f2 f3 (by assumption) (by assumption) (by assumption) (by assumption) (by assumption) (by rw [hgc]; rfl) (by assumption) (by assumption) (by rfl) (by rfl) ?_
               intro z z1 z2 z3 z4
               have hk : z ≠ Str.ofString "kid" := by intro e; subst e; revert z4; decide
               have hm : z ≠ Str.ofString "more" := by intro e; subst e; revert z4; decide
               have hcd : z ≠ Str.ofString "called" := by intro e; subst e; revert z4; decide
               simp only [if_neg z1, if_neg z2, if_neg z3, if_neg hk, if_neg hm, if_neg hcd, z4, Bool.false_eq_true, if_false]
             · (rename g.c = false => hgc)
               refine grow_end_kid hg (by assumption) f1 f2 f3 (by assumption) (by assumption) (by assumption) (by assumption) (by assumption) (by rw [hgc, Bool.false_or]) (by assumption) (by assumption) (by rfl) (by rfl) ?_
               intro z z1 z2 z3 z4
               have hk : z ≠ Str.ofString "kid" := by intro e; subst e; revert z4; decide
               have hm : z ≠ Str.ofString "more" := by intro e; subst e; revert z4; decide
               have hcd : z ≠ Str.ofString "called" := by intro e; subst e; revert z4; decide
               simp only [if_neg z1, if_neg z2, if_neg z3, if_neg hk, if_neg hm, if_neg hcd, z4, Bool.false_eq_true, if_false])
      case done =>
        intro g I u h tk hg hI F' N'
        obtain ⟨f1, f2, f3, f4, f5, f6, f7⟩ := turn_facts hI hg.over hne (by tbn_find) (by tbn_find)
        obtain ⟨pl2, hrow2⟩ := hg.row
        obtain ⟨dxT, esT, nT, tiT, hT1, hT2, hT3⟩ := id hty
        dsimp only [GSt.led] at N'
        k_steps
        obtain ⟨tl9, N9, G9⟩ := grow_close (k := k) (by assumption) hg hI (by k_get) (by k_get) (by k_get) (by k_get) (by tbn_find) (by assumption) (by omega) (by omega) (by omega) (by tbn_find) (by omega)
        exact hret _ _ _ _ _ (by assumption) N9 G9)
end
end
end
end Mine
namespace Mine
section
section
variable {prog : Program} {w : World} {p : Program} {loose : List Str} {mean : ExcName → Option Value} {mg mb : Str → Option Value}
theorem grown_all : ∀ (k : Nat), k ≤ 4 → Grows prog w p loose mean mg mb 163 k
  | 0, h => grown_step 0 h fun k' e => by omega
  | k + 1, h => grown_step (k + 1) h fun k' e => by
    have e' : k = k' := by omega
    subst e'
    exact grown_all k (by omega)
end
end
section
section
section
variable {prog : Program} {w : World}
theorem law_start {h₀ h : Heap} {L D dr ta : Addr} {ys : List Value} {sl : Addr × Obj} {o : Obj} {tl : List (Addr × Obj)} {ns : List Int} {t1 t2 : Tok} (N : News h₀ L h (tl ++ [(D, LCg.lst ys), sl, (dr, o)])) (hov : ∀ q ∈ [(D, LCg.lst ys), sl, (dr, o)], ∀ p ∈ tl, @LT.lt Nat _ q.1 p.1) (ho : dr ≠ D)
    (hI : IntsAre ys (List.map (fun k' => Int.fmod (if k' < 0 then -k' else k') 60) (List.take 60 ns))) (ht : TypesAt tl ta)
    (hd : o.IsDictOf (strKind prog w) [(Str.ofString "cells", .ref D), (Str.ofString "at", .int 0 t1), (Str.ofString "place", .int 0 t2)]) :
    ∃ (base : List (Addr × Obj)) (cells : List Int), News h₀ L h ((dr, o) :: base) ∧ (∀ p ∈ base, p.1 ≠ dr) ∧ RowIs prog w cells D 0 o ∧ CellsIn base D cells ∧ TypesAt base ta := by
  refine ⟨tl ++ [(D, LCg.lst ys)], _, fun p hp => N p ?_, fun p hp => ?_, ⟨0, t1, t2, Int.le_refl _, Int.natCast_nonneg _, hd⟩, ⟨ys, _, List.mem_append.mpr (.inr List.mem_cons_self), hI, ?_, ?_⟩, ht.mono fun p hp => List.mem_append.mpr (.inl hp)⟩
  · simp only [List.mem_cons, List.mem_append, List.not_mem_nil, or_false] at hp ⊢
    rcases hp with h | h | h <;> simp [h]
  · rcases List.mem_append.mp hp with hp | hp
    · exact fun e => by
        have h1 := hov (dr, o) (by simp) p hp
        rw [e] at h1
        exact absurd h1 (Nat.lt_irrefl _)
    · rw [List.mem_singleton.mp hp]
      exact fun e => ho e.symm
  · rw [List.length_map, List.length_take]
    exact Nat.min_le_left _ _
  · intro c hc
    obtain ⟨k, _, rfl⟩ := List.mem_map.mp hc
    exact ⟨fmod_lo _ (by decide), fmod_hi _ (by decide)⟩
end
end
section
section
variable {prog : Program} {w : World} {A : Around} {E : Value → Shared → Prop} {s : Shared} {h₀ : Heap} {L : Addr} {m : Str → Option Value} {env : Env}
def PlEnd (h₀ : Heap) (L : Addr) (m : Str → Option Value) (s : Shared) (l : List (Addr × Obj)) (pl : Int) (y : Value) (s₂ : Shared) : Prop :=
  ∃ t h' tk', y = .int pl t ∧ s₂ = { s with heap := h', toks := tk' } ∧ Fr h₀ L h' m ∧ News h₀ L h' l
theorem comp_S {elt : PySem.Expr} {x : Str} {scope : Scope} {cl : List (Str × Addr)} {S : List (Addr × Obj) → Prop} {Fin : List Value → List (Addr × Obj) → Prop} {ns : List Nd} {news : List (Addr × Obj)}
    (turn : ∀ d ∈ ns, ∀ (ys : List Value) I oI C oC D m₂ h tk (E' : Value → Shared → Prop), LCg.NsObj oC m₂ → m₂ x = some (.ref d.x) → Fr h₀ L h m → News h₀ L h ((I, oI) :: (C, oC) :: (D, LCg.lst ys) :: news) →
      wpAny (model prog w) A (eval elt (compEnvC scope cl C env)) (PlEnd h₀ L m { s with heap := h, toks := tk } ((I, oI) :: (C, oC) :: (D, LCg.lst ys) :: news) d.pl) E' { s with heap := h, toks := tk })
    (hS : S news) (fin : ∀ ys, IntsAre ys (ns.map Nd.pl) → Fin ys news) :
    ∀ k i ys, i + k = ns.length → IntsAre ys ((ns.take i).map Nd.pl) → LCg.CompRest prog w A h₀ L m env elt x scope cl s S (fun i v => (ns.map Nd.ref).toArray[i]? = some v) Fin k i ys news := by
  intro k
  induction k with
  | zero =>
    intro i ys hi hy
    rw [show i = ns.length by omega, List.take_length] at hy
    exact fin ys hy
  | succ k ih =>
    intro i ys hi hy v I oI C oC D m₂ h tk E' hP hC hx F N hoff hne
    have hlt : i < ns.length := by omega
    have hv : v = .ref (ns[i]).x := by
      have : (ns.map Nd.ref)[i]? = some v := by simpa using hP
      rw [List.getElem?_map, List.getElem?_eq_getElem hlt] at this
      exact (Option.some.inj this).symm
    subst hv
    refine wpAny_mono (turn ns[i] (List.getElem_mem hlt) ys I oI C oC D m₂ h tk E' hC hx F N) (fun y s₂ q => ?_) fun _ _ e => e
    obtain ⟨t, h', tk', rfl, rfl, F', N'⟩ := q
    refine LCg.CompEnd.intro F' N' news (fun p hp => hp) hoff hS (ih (i + 1) _ (by omega) ?_)
    rw [List.take_add_one, List.map_append, List.getElem?_eq_getElem hlt]
    exact hy.append (.cons _ _ .nil)
theorem my_ne {a b : Addr} {vs us : List Value} {ns : List Int} {n1 n2 : Nat} {news : List (Addr × Obj)} {Q : Value → Shared → Prop} (N : News h₀ L s.heap news) (h1 : (a, W.listOf vs.toArray n1) ∈ news) (h2 : (b, W.listOf us.toArray n2) ∈ news) (hi : IntsAre vs ns) (hi' : IntsAre us ns) (hu : A.units + 64 < cLine)
    (h : Q (.bool false) s) : wpAny (model prog w) A (compareOp .NotEq (.ref a) (.ref b)) Q E s := by
  refine ne_intsK (News.isList N h1) hi (News.isList N h2) hi' hu ?_
  simpa using h
end
end
section
section
variable {prog : Program} {w : World} {A : Around} {E : Value → Shared → Prop} {s : Shared} {env : Env} {h₀ : Heap} {x : Str} {body : List Stmt} {Q : Flow → Shared → Prop}
theorem outer_loop {r dr dc : Addr} {od : Obj} {rest : List (Addr × Obj)} {cells : List Int} {t₀ u₀ v₀ : Tok} {m₀ : Str → Option Value} (stored : List Str) (hh : A.handled = none)
    (F : Fr h₀ env.locals s.heap m₀) (N : News h₀ env.locals s.heap ((dr, od) :: rest)) (hr : IsRange s.heap r 0 3 1 t₀ u₀ v₀) (hrow : ∃ pl, RowIs prog w cells dc pl od)
    (turn : ∀ od I it i t (u : Str → Option Value) h tk, (∃ pl, RowIs prog w cells dc pl od) → @LT.lt Nat _ dr I → (∀ p ∈ rest, @LT.lt Nat _ p.1 I) →
      Fr h₀ env.locals h (fun y => if y = x then some (.int i t) else if stored.contains y then u y else m₀ y) → News h₀ env.locals h ((I, it) :: (dr, od) :: rest) →
      wpAny (model prog w) A (execs body env) (UnrPost h₀ env.locals { s with heap := h, toks := tk } I it (fun m' n' => ∃ od', n' = (dr, od') :: rest ∧ (∃ pl, RowIs prog w cells dc pl od') ∧ ∀ z, z ≠ x → stored.contains z = false → m' z = m₀ z) Q) E { s with heap := h, toks := tk })
    (done : ∀ od (u : Str → Option Value) h tk, Fr h₀ env.locals h (fun y => if y = x then u y else if stored.contains y then u y else m₀ y) → News h₀ env.locals h ((dr, od) :: rest) → Q .next { s with heap := h, toks := tk }) :
    wpAny (model prog w) A (pyIter (.ref r)) (fun it s₂ => LoopAtV prog w A h₀ env x body Q E it s₂) E s := by
  refine iter_rangeUnr (n := 3) hh hr (by decide) (by decide) F N ?_
  intro I hI
  refine range_S (σ := Obj) (fun o => (dr, o) :: rest) (fun _ => []) stored (fun _ o => ∃ pl, RowIs prog w cells dc pl o) ?step ?done 3 0 m₀ _ rfl ⟨od, rfl, (fun _ h => nomatch h), (fun _ _ _ _ => rfl), hrow⟩
  case step =>
    rintro k i o u t h tk hk hp F' N'
    refine wpAny_mono (turn o I _ _ t u h tk hp (hI (dr, od) List.mem_cons_self) (fun p hp => hI p (List.mem_cons_of_mem _ hp)) F' N') (fun f s₂ p => unrPost_mono ?_ p) fun _ _ e => e
    rintro m' n' ⟨o', rfl, hr', hm⟩
    exact ⟨o', rfl, (fun _ h => nomatch h), fun z hz _ hs => hm z hz hs, hr'⟩
  case done =>
    rintro o u h tk _ F' N'
    exact done o u h tk F' N'
theorem outer_end {L : Addr} {dr dc I : Addr} {it od' : Obj} {rest all : List (Addr × Obj)} {cells : List Int} {pl : Int} {stored : List Str} {m₀ m' : Str → Option Value} {s₁ : Shared} {h' : Heap} {tk : Nat} (F : Fr h₀ L h' m') (N : News h₀ L h' ((dr, od') :: all)) (hi : (I, it) ∈ all) (hs : ∀ p ∈ rest, p ∈ all)
    (f1 : @LT.lt Nat _ dr I) (f2 : ∀ p ∈ rest, @LT.lt Nat _ p.1 I) (hrow : RowIs prog w cells dc pl od') (hm : ∀ z, z ≠ x → stored.contains z = false → m' z = m₀ z) :
    UnrEnd h₀ L s₁ I it (fun m' n' => ∃ od', n' = (dr, od') :: rest ∧ (∃ pl, RowIs prog w cells dc pl od') ∧ ∀ z, z ≠ x → stored.contains z = false → m' z = m₀ z) { s₁ with heap := h', toks := tk } := by
  refine UnrEnd.intro F N ((dr, od') :: rest) (fun p hp => ?_) (fun p hp => ?_) ⟨od', rfl, ⟨pl, hrow⟩, hm⟩
  · rcases List.mem_cons.mp hp with rfl | hp
    · exact List.mem_cons_of_mem _ hi
    · rcases List.mem_cons.mp hp with rfl | hp
      · exact List.mem_cons_self
      · exact List.mem_cons_of_mem _ (hs p hp)
  · rcases List.mem_cons.mp hp with rfl | hp
    · exact Nat.ne_of_lt f1
    · exact Nat.ne_of_lt (f2 p hp)
/-- what holds of the chain between two steps -/
structure ChOk (news : List (Addr × Obj)) (ho : Addr) (v : Value) (nm rt : Bool) : Prop where
  ch : ∃ e val n, Ch news e val n v ∧ (e == Str.ofString "var" || e == Str.ofString "deref") = nm ∧ (e == Str.ofString "var") = rt ∧ (rt = true → val = .ref ho) ∧ handedIn val = true
structure CSt where
  od : Obj
  tl : List (Addr × Obj)
  v : Value
  nm : Bool
  rt : Bool
theorem chain_loop {r dr dc ho : Addr} {ro : Bool} {od : Obj} {base : List (Addr × Obj)} {cells : List Int} {b : Int} {t₀ u₀ v₀ : Tok} {pl : Int} {v : Value} {nm rt : Bool} {m₀ : Str → Option Value} (stored : List Str) (hh : A.handled = none)
    (F : Fr h₀ env.locals s.heap m₀) (N : News h₀ env.locals s.heap ((dr, od) :: base)) (hr : IsRange s.heap r 0 b 1 t₀ u₀ v₀) (hb0 : 0 ≤ b) (hb1 : b < 100)
    (h1 : m₀ (Str.ofString "node") = some v) (h2 : m₀ (Str.ofString "named") = some (.bool nm)) (h3 : m₀ (Str.ofString "rooted") = some (.bool rt)) (hrow : RowIs prog w cells dc pl od) (hok : ChOk base ho v nm rt) (hob : ObjAt base ho ro) (hne : ∀ p ∈ base, p.1 ≠ dr)
    (turn : ∀ od tl v nm rt I it i t (u : Str → Option Value) h tk, (∃ pl, RowIs prog w cells dc pl od) → ChOk (tl ++ base) ho v nm rt → @LT.lt Nat _ dr I → (∀ p ∈ tl, @LT.lt Nat _ I p.1) → (∀ p ∈ tl ++ base, p.1 ≠ dr) → (∀ p ∈ tl ++ base, p.1 ≠ I) →
      Fr h₀ env.locals h (fun y => if y = x then some (.int i t) else if y = Str.ofString "node" then some v else if y = Str.ofString "named" then some (.bool nm) else if y = Str.ofString "rooted" then some (.bool rt) else if stored.contains y then u y else m₀ y) →
      News h₀ env.locals h ((I, it) :: (dr, od) :: (tl ++ base)) →
      wpAny (model prog w) A (execs body env) (UnrPost h₀ env.locals { s with heap := h, toks := tk } I it (fun m' n' => ∃ od' tl' v' nm' rt', n' = (dr, od') :: (tl' ++ base) ∧ (∃ pl, RowIs prog w cells dc pl od') ∧ ChOk (tl' ++ base) ho v' nm' rt' ∧ (∀ p ∈ tl', @LT.lt Nat _ I p.1) ∧
        m' (Str.ofString "node") = some v' ∧ m' (Str.ofString "named") = some (.bool nm') ∧ m' (Str.ofString "rooted") = some (.bool rt') ∧
        ∀ z, z ≠ x → z ≠ Str.ofString "node" → z ≠ Str.ofString "named" → z ≠ Str.ofString "rooted" → stored.contains z = false → m' z = m₀ z) Q) E { s with heap := h, toks := tk })
    (done : ∀ od rest v nm rt e val n (u : Str → Option Value) h tk, (∃ pl, RowIs prog w cells dc pl od) → Ch rest e val n v → (e == Str.ofString "var" || e == Str.ofString "deref") = nm → (e == Str.ofString "var") = rt → (rt = true → val = .ref ho) → handedIn val = true → ObjAt rest ho ro → (∀ p ∈ base, p ∈ rest) → (∀ p ∈ rest, p.1 ≠ dr) →
      Fr h₀ env.locals h (fun y => if y = x then u y else if y = Str.ofString "node" then some v else if y = Str.ofString "named" then some (.bool nm) else if y = Str.ofString "rooted" then some (.bool rt) else if stored.contains y then u y else m₀ y) →
      News h₀ env.locals h ((dr, od) :: rest) → Q .next { s with heap := h, toks := tk }) :
    wpAny (model prog w) A (pyIter (.ref r)) (fun it s₂ => LoopAtV prog w A h₀ env x body Q E it s₂) E s := by
  refine iter_rangeUnr (n := b.toNat) hh hr (small_one (by omega) (by omega) (by omega) (by omega)) (by rw [rangeSize_nat]; congr 1; omega) F N ?_
  intro I hI
  have hdr : @LT.lt Nat _ dr I := hI (dr, od) List.mem_cons_self
  have hbI : ∀ p ∈ base, p.1 ≠ I := fun p hp => Nat.ne_of_lt (hI p (List.mem_cons_of_mem _ hp))
  refine range_S (σ := CSt) (fun c => (dr, c.od) :: (c.tl ++ base)) (fun c => [(Str.ofString "node", c.v), (Str.ofString "named", .bool c.nm), (Str.ofString "rooted", .bool c.rt)]) stored
    (fun _ c => (∃ pl, RowIs prog w cells dc pl c.od) ∧ ChOk (c.tl ++ base) ho c.v c.nm c.rt ∧ ∀ p ∈ c.tl, @LT.lt Nat _ I p.1) ?step ?done b.toNat 0 m₀ _ (by omega) ⟨⟨od, [], v, nm, rt⟩, rfl, ?_, (fun _ _ _ _ => rfl), ⟨pl, hrow⟩, hok, (fun _ h => nomatch h)⟩
  case step =>
    rintro k i ⟨od, tl, v, nm, rt⟩ u t h tk hk ⟨hp, hc, hov⟩ F' N'
    refine wpAny_mono (turn od tl v nm rt I _ _ t u h tk hp hc hdr hov (tl_ne (Nat.le_of_lt hdr) hov hne) (tl_ne (Nat.le_refl _) hov hbI) F' N') (fun f s₂ p => unrPost_mono ?_ p) fun _ _ e => e
    rintro m' n' ⟨od', tl', v', nm', rt', rfl, hr', hc', hov', e1, e2, e3, hm⟩
    refine ⟨⟨od', tl', v', nm', rt'⟩, rfl, ?_, ?_, hr', hc', hov'⟩
    · intro p hp
      rcases List.mem_cons.mp hp with rfl | hp
      · exact e1
      · rcases List.mem_cons.mp hp with rfl | hp
        · exact e2
        · rw [List.mem_singleton.mp hp]; exact e3
    · intro z hz hz2 hs
      exact hm z hz (hz2 _ List.mem_cons_self) (hz2 _ (List.mem_cons_of_mem _ List.mem_cons_self)) (hz2 _ (List.mem_cons_of_mem _ (List.mem_cons_of_mem _ List.mem_cons_self))) hs
  case done =>
    rintro ⟨od, tl, v, nm, rt⟩ u h tk ⟨hp, ⟨e, val, n, h1, h2, h3, h4, h5⟩, hov⟩ F' N'
    exact done od (tl ++ base) v nm rt e val n u h tk hp h1 h2 h3 h4 h5 (hob.mono fun p hp => List.mem_append.mpr (.inr hp)) (fun p hp => List.mem_append.mpr (.inr hp)) (tl_ne (Nat.le_of_lt hdr) hov hne) F' N'
  · intro p hp
    rcases List.mem_cons.mp hp with rfl | hp
    · exact h1
    · rcases List.mem_cons.mp hp with rfl | hp
      · exact h2
      · rw [List.mem_singleton.mp hp]; exact h3
theorem chok_step {news news' : List (Addr × Obj)} {ho x' ka : Addr} {v : Value} {nm rt nm' rt' : Bool} {op : Str} {pl : Int} {nk : Nat} (h : ChOk news ho v nm rt) (hs : ∀ p ∈ news, p ∈ news') (hN : NodeAt news' x' op pl ka .none) (hk : (ka, W.listOf [v].toArray nk) ∈ news')
    (hop : op = Str.ofString "field" ∨ op = Str.ofString "index" ∨ op = Str.ofString "guard" ∨ op = Str.ofString "deref") (h1 : nm' = (nm || op == Str.ofString "deref")) (h2 : rt' = (rt && op != Str.ofString "deref")) : ChOk news' ho (.ref x') nm' rt' := by
  obtain ⟨e, val, n, hc, e1, e2, e3, e4⟩ := h.ch
  have step : walks op = true → (op == Str.ofString "deref") = false → ChOk news' ho (.ref x') nm' rt' := by
    intro hw hd
    have hd' : (op != Str.ofString "deref") = true := by rw [bne, hd]; rfl
    refine ⟨e, val, n + 1, .step hN hw hk (hc.mono hs), ?_, ?_, ?_, e4⟩
    · rw [h1, hd, Bool.or_false, e1]
    · rw [h2, hd', Bool.and_true, e2]
    · rw [h2, hd', Bool.and_true]; exact e3
  rcases hop with rfl | rfl | rfl | rfl
  · exact step (by decide) (by decide)
  · exact step (by decide) (by decide)
  · exact step (by decide) (by decide)
  · refine ⟨_, _, 0, .stop hN (by decide), ?_, ?_, ?_, rfl⟩
    · rw [h1, show (Str.ofString "deref" == Str.ofString "deref") = true from by decide, Bool.or_true, Bool.or_true]
    · rw [h2, show (Str.ofString "deref" != Str.ofString "deref") = false from by decide, Bool.and_false]; decide
    · rw [h2, show (Str.ofString "deref" != Str.ofString "deref") = false from by decide, Bool.and_false]; intro h; cases h
theorem chain_end {L : Addr} {dr dc I ho : Addr} {it od' : Obj} {base : List (Addr × Obj)} {all : List (Addr × Obj)} {cells : List Int} {pl : Int} {v' : Value} {nm' rt' : Bool} {stored : List Str} {m₀ m' : Str → Option Value} {s₁ : Shared} {h' : Heap} {tk : Nat} (tl' : List (Addr × Obj)) (F : Fr h₀ L h' m') (N : News h₀ L h' all)
    (hs : ∀ p ∈ (I, it) :: (dr, od') :: (tl' ++ base), p ∈ all) (f1 : @LT.lt Nat _ dr I) (f2 : ∀ p ∈ base, p.1 ≠ I) (hov : ∀ p ∈ tl', @LT.lt Nat _ I p.1) (hrow : RowIs prog w cells dc pl od') (hc : ChOk (tl' ++ base) ho v' nm' rt')
    (e1 : m' (Str.ofString "node") = some v') (e2 : m' (Str.ofString "named") = some (.bool nm')) (e3 : m' (Str.ofString "rooted") = some (.bool rt')) (hm : ∀ z, z ≠ x → z ≠ Str.ofString "node" → z ≠ Str.ofString "named" → z ≠ Str.ofString "rooted" → stored.contains z = false → m' z = m₀ z) :
    UnrEnd h₀ L s₁ I it (fun m' n' => ∃ od' tl' v' nm' rt', n' = (dr, od') :: (tl' ++ base) ∧ (∃ pl, RowIs prog w cells dc pl od') ∧ ChOk (tl' ++ base) ho v' nm' rt' ∧ (∀ p ∈ tl', @LT.lt Nat _ I p.1) ∧
        m' (Str.ofString "node") = some v' ∧ m' (Str.ofString "named") = some (.bool nm') ∧ m' (Str.ofString "rooted") = some (.bool rt') ∧
        ∀ z, z ≠ x → z ≠ Str.ofString "node" → z ≠ Str.ofString "named" → z ≠ Str.ofString "rooted" → stored.contains z = false → m' z = m₀ z) { s₁ with heap := h', toks := tk } := by
  refine UnrEnd.intro F N ((dr, od') :: (tl' ++ base)) hs (fun p hp => ?_) ⟨od', tl', v', nm', rt', rfl, ⟨pl, hrow⟩, hc, hov, e1, e2, e3, hm⟩
  rcases List.mem_cons.mp hp with rfl | hp
  · exact Nat.ne_of_lt f1
  · exact tl_ne (Nat.le_refl _) hov f2 p hp
end
end
section
section
variable {prog : Program} {w : World} {A : Around} {E : Value → Shared → Prop} {s : Shared} {env : Env} {h₀ : Heap} {x : Str} {body : List Stmt} {Q : Flow → Shared → Prop}
theorem chok_start {news : List (Addr × Obj)} {x ho ka : Addr} {op : Str} {pl : Int} {val : Value} (hN : NodeAt news x op pl ka val) (hop : op = Str.ofString "var" ∨ op = Str.ofString "call" ∨ op = Str.ofString "const" ∨ op = Str.ofString "var")
    (hv : (op == Str.ofString "var") = true → val = .ref ho) (hh : handedIn val = true) : ChOk news ho (.ref x) (op == Str.ofString "var") (op == Str.ofString "var") := by
  have go : walks op = false → (op == Str.ofString "deref") = false → ChOk news ho (.ref x) (op == Str.ofString "var") (op == Str.ofString "var") := by
    intro hw hd
    exact ⟨op, val, 0, .stop hN hw, by rw [hd, Bool.or_false], rfl, hv, hh⟩
  rcases hop with rfl | rfl | rfl | rfl
  · exact go (by decide) (by decide)
  · exact go (by decide) (by decide)
  · exact go (by decide) (by decide)
  · exact go (by decide) (by decide)
theorem chain_prep {L : Addr} {h : Heap} {dr dc ho x ka ta I : Addr} {m : Str → Option Value} {it od : Obj} {op : Str} {pl : Int} {val : Value} {ro : Bool} {bs l : List (Addr × Obj)} {cells : List Int} (F : Fr h₀ L h m) (e1 : m (Str.ofString "node") = some (.ref x)) (e2 : m (Str.ofString "held") = some (.ref ho)) (e3 : m (Str.ofString "named") = some (.bool (op == Str.ofString "var")))
    (N : News h₀ L h ((dr, od) :: bs)) (hob : ObjAt bs ho ro) (hN : NodeAt bs x op pl ka val) (hop : op = Str.ofString "var" ∨ op = Str.ofString "call" ∨ op = Str.ofString "const" ∨ op = Str.ofString "var")
    (hv : (op == Str.ofString "var") = true → val = .ref ho) (hh : handedIn val = true) (hI : (I, it) ∈ bs) (hs : ∀ p ∈ l, p ∈ bs)
    (hne : ∀ p ∈ bs, p.1 ≠ dr) (hce : CellsIn l dc cells) (hty : TypesAt l ta) :
    ∃ bs', News h₀ L h ((dr, od) :: bs') ∧ ObjAt bs' ho ro ∧ ChOk bs' ho (.ref x) (op == Str.ofString "var") (op == Str.ofString "var") ∧ (I, it) ∈ bs' ∧ (∀ p ∈ l, p ∈ bs') ∧ (∀ p ∈ bs', p.1 ≠ dr) ∧ CellsIn bs' dc cells ∧ TypesAt bs' ta :=
  ⟨bs, N, hob, chok_start hN hop hv hh, hI, hs, hne, hce.mono hs, hty.mono hs⟩
theorem chain_prepG {G : Prop} {L : Addr} {h : Heap} {dr dc ho x ka ta I : Addr} {m : Str → Option Value} {it od : Obj} {op : Str} {pl : Int} {val : Value} {ro : Bool} {bs l : List (Addr × Obj)} {cells : List Int} (F : Fr h₀ L h m) (e1 : m (Str.ofString "node") = some (.ref x)) (e2 : m (Str.ofString "held") = some (.ref ho)) (e3 : m (Str.ofString "named") = some (.bool (op == Str.ofString "var")))
    (N : News h₀ L h ((dr, od) :: bs)) (hob : ObjAt bs ho ro) (hN : NodeAt bs x op pl ka val) (hop : op = Str.ofString "var" ∨ op = Str.ofString "call" ∨ op = Str.ofString "const" ∨ op = Str.ofString "var")
    (hv : (op == Str.ofString "var") = true → val = .ref ho) (hh : handedIn val = true) (hI : (I, it) ∈ bs) (hs : ∀ p ∈ l, p ∈ bs)
    (hne : ∀ p ∈ bs, p.1 ≠ dr) (hce : CellsIn l dc cells) (hty : TypesAt l ta)
    (fin : ∀ bs', News h₀ L h ((dr, od) :: bs') → ObjAt bs' ho ro → ChOk bs' ho (.ref x) (op == Str.ofString "var") (op == Str.ofString "var") → (I, it) ∈ bs' → (∀ p ∈ l, p ∈ bs') → (∀ p ∈ bs', p.1 ≠ dr) → CellsIn bs' dc cells → TypesAt bs' ta → G) : G :=
  fin bs N hob (chok_start hN hop hv hh) hI hs hne (hce.mono hs) (hty.mono hs)
theorem chain_end3 {L : Addr} {dr dc I ho x' dx ka : Addr} {it od' : Obj} {base tl all : List (Addr × Obj)} {cells : List Int} {pl pl2 : Int} {v : Value} {nm rt nm' rt' : Bool} {es : List DictEntry} {n nk : Nat} {t1 t2 : Tok} {op : Str} {stored : List Str} {m₀ m' : Str → Option Value} {s₁ : Shared} {h' : Heap} {tk : Nat}
    (F : Fr h₀ L h' m') (N : News h₀ L h' all) (e1 : m' (Str.ofString "node") = some (.ref x')) (hx : (x', instObj 32 dx) ∈ all) (hdx : (dx, dictOf es n) ∈ all) (gop : getL (Str.ofString "op") es = some (some (.str op t1))) (gpl : getL (Str.ofString "place") es = some (some (.int pl2 t2)))
    (gka : getL (Str.ofString "kids") es = some (some (.ref ka))) (gval : getL (Str.ofString "value") es = some (some .none)) (hk : (ka, W.listOf [v].toArray nk) ∈ all) (hI : (I, it) ∈ all) (hdr : (dr, od') ∈ all) (hs : ∀ p ∈ tl ++ base, p ∈ all)
    (f1 : @LT.lt Nat _ dr I) (f2 : ∀ p ∈ tl ++ base, p.1 ≠ I) (hov : ∀ p ∈ tl, @LT.lt Nat _ I p.1) (i1 : @LT.lt Nat _ I x') (i2 : @LT.lt Nat _ I dx) (i3 : @LT.lt Nat _ I ka) (hrow : RowIs prog w cells dc pl od') (hc : ChOk (tl ++ base) ho v nm rt)
    (hop : op = Str.ofString "field" ∨ op = Str.ofString "index" ∨ op = Str.ofString "guard" ∨ op = Str.ofString "deref")
    (e2 : m' (Str.ofString "named") = some (.bool nm')) (e3 : m' (Str.ofString "rooted") = some (.bool rt')) (h1 : nm' = (nm || op == Str.ofString "deref")) (h2 : rt' = (rt && op != Str.ofString "deref"))
    (hm : ∀ z, z ≠ x → z ≠ Str.ofString "node" → z ≠ Str.ofString "named" → z ≠ Str.ofString "rooted" → stored.contains z = false → m' z = m₀ z) :
    UnrEnd h₀ L s₁ I it (fun m' n' => ∃ od' tl' v' nm' rt', n' = (dr, od') :: (tl' ++ base) ∧ (∃ pl, RowIs prog w cells dc pl od') ∧ ChOk (tl' ++ base) ho v' nm' rt' ∧ (∀ p ∈ tl', @LT.lt Nat _ I p.1) ∧
        m' (Str.ofString "node") = some v' ∧ m' (Str.ofString "named") = some (.bool nm') ∧ m' (Str.ofString "rooted") = some (.bool rt') ∧
        ∀ z, z ≠ x → z ≠ Str.ofString "node" → z ≠ Str.ofString "named" → z ≠ Str.ofString "rooted" → stored.contains z = false → m' z = m₀ z) { s₁ with heap := h', toks := tk } := by
  refine chain_end ((x', instObj 32 dx) :: (dx, dictOf es n) :: (ka, W.listOf [v].toArray nk) :: tl) F N ?_ f1 (fun p hp => f2 p (List.mem_append.mpr (.inr hp))) ?_ hrow (chok_step (ka := ka) (nk := nk) (pl := pl2) (op := op) hc ?_ ?_ ?_ hop h1 h2) e1 e2 e3 hm
  · intro p hp
    simp only [List.cons_append] at hp
    rcases List.mem_cons.mp hp with rfl | hp
    · exact hI
    rcases List.mem_cons.mp hp with rfl | hp
    · exact hdr
    rcases List.mem_cons.mp hp with rfl | hp
    · exact hx
    rcases List.mem_cons.mp hp with rfl | hp
    · exact hdx
    rcases List.mem_cons.mp hp with rfl | hp
    · exact hk
    exact hs p hp
  · intro p hp
    rcases List.mem_cons.mp hp with rfl | hp
    · exact i1
    rcases List.mem_cons.mp hp with rfl | hp
    · exact i2
    rcases List.mem_cons.mp hp with rfl | hp
    · exact i3
    exact hov p hp
  · intro p hp
    exact List.mem_cons_of_mem _ (List.mem_cons_of_mem _ (List.mem_cons_of_mem _ hp))
  · exact ⟨dx, es, n, t1, t2, List.mem_cons_self, List.mem_cons_of_mem _ List.mem_cons_self, gop, gpl, gka, gval⟩
  · exact List.mem_cons_of_mem _ (List.mem_cons_of_mem _ List.mem_cons_self)
theorem not_in {stored : List Str} {z : Str} (h : stored.contains z = false) : ∀ a ∈ stored, z ≠ a := by
  intro a ha e
  subst e
  rw [List.contains_iff_mem.mpr ha] at h
  cases h
theorem in_not {stored : List Str} {z : Str} (h : ∀ a ∈ stored, z ≠ a) : stored.contains z = false := by
  cases hc : stored.contains z with
  | false => rfl
  | true => exact absurd rfl (h z (List.contains_iff_mem.mp hc))
theorem ro_t {e : Str} {ro : Bool} (h : (e == Str.ofString "var") = true) : (e == Str.ofString "var" && ro) = ro := by rw [h, Bool.true_and]
theorem ro_f {e : Str} {ro : Bool} (h : (e == Str.ofString "var") = false) : (e == Str.ofString "var" && ro) = false := by rw [h, Bool.false_and]
end
section
variable {prog : Program} {w : World} {p : Program} {loose : List Str} {mean : ExcName → Option Value} {mg mb : Str → Option Value}
variable {dp un : Nat} {gd : Option (List Code)} {cn : Str} {cs : Scope} {a : Addr} {ccd : Value} {cl : List (Str × Addr)} {outer : List Env} {A₀ : Around} {base h₀ : Heap} {L : Addr} {m : Str → Option Value} {news : List (Addr × Obj)} {s : Shared}
    {v val : Value} {e : Str} {n : Nat} {b ro : Bool} {Q E : Value → Shared → Prop}
theorem desig_b (B : Below A₀ base outer h₀) (F : Fr h₀ L s.heap m) (X : Frag.In (hd.heap_39 w.params) h₀) (N : News h₀ L s.heap news) (T : Top p loose mean mg mb h₀) (hk : cs.kind = .function)
    (hv : Ch news e val n v) (hb : (e == Str.ofString "var" || e == Str.ofString "deref") = b) (hdp : dp + 3 < recursionLimit) (hun : un + 24 < cLine)
    (hret : ∀ h' tk', Fr h₀ L h' m → News h₀ L h' news → Q (.bool b) { s with heap := h', toks := tk' }) :
    wpAny (model prog w) (ktrTop dp un gd cn cs L a ccd cl outer) (call (.ref 57) [v]) Q E s := by
  subst hb
  exact desig_says B F X N T hk hv hdp hun hret
theorem root_t (B : Below A₀ base outer h₀) (F : Fr h₀ L s.heap m) (X : Frag.In (hd.heap_39 w.params) h₀) (N : News h₀ L s.heap news) (T : Top p loose mean mg mb h₀) (hk : cs.kind = .function)
    (hv : Ch news e val n v) (hb : (e == Str.ofString "var") = true) (hvh : handedIn val = true) (hdp : dp + 3 < recursionLimit) (hun : un + 24 < cLine)
    (hret : ∀ h' tk', Fr h₀ L h' m → News h₀ L h' news → Q val { s with heap := h', toks := tk' }) :
    wpAny (model prog w) (ktrTop dp un gd cn cs L a ccd cl outer) (call (.ref 64) [v]) Q E s :=
  root_says B F X N T hk hv hvh hdp hun fun h' tk' F N => by rw [if_pos hb]; exact hret h' tk' F N
theorem root_f (B : Below A₀ base outer h₀) (F : Fr h₀ L s.heap m) (X : Frag.In (hd.heap_39 w.params) h₀) (N : News h₀ L s.heap news) (T : Top p loose mean mg mb h₀) (hk : cs.kind = .function)
    (hv : Ch news e val n v) (hb : (e == Str.ofString "var") = false) (hvh : handedIn val = true) (hdp : dp + 3 < recursionLimit) (hun : un + 24 < cLine)
    (hret : ∀ h' tk', Fr h₀ L h' m → News h₀ L h' news → Q .none { s with heap := h', toks := tk' }) :
    wpAny (model prog w) (ktrTop dp un gd cn cs L a ccd cl outer) (call (.ref 64) [v]) Q E s :=
  root_says B F X N T hk hv hvh hdp hun fun h' tk' F N => by rw [if_neg (by rw [hb]; decide)]; exact hret h' tk' F N
theorem ro_bt {ho : Addr} (B : Below A₀ base outer h₀) (F : Fr h₀ L s.heap m) (X : Frag.In (hd.heap_39 w.params) h₀) (N : News h₀ L s.heap news) (T : Top p loose mean mg mb h₀) (hk : cs.kind = .function)
    (hv : Ch news e (.ref ho) n v) (hb : (e == Str.ofString "var") = true) (hob : ObjAt news ho ro) (hdp : dp + 6 < recursionLimit) (hun : un + 48 < cLine)
    (hret : ∀ h' tk', Fr h₀ L h' m → News h₀ L h' news → Q (.bool ro) { s with heap := h', toks := tk' }) :
    wpAny (model prog w) (ktrTop dp un gd cn cs L a ccd cl outer) (call (.ref 71) [v]) Q E s :=
  ro_says (ro := ro) B F X N T hk hv (fun _ => ⟨ho, rfl, hob⟩) rfl hdp hun fun h' tk' F N => by rw [ro_t hb]; exact hret h' tk' F N
theorem ro_bf (B : Below A₀ base outer h₀) (F : Fr h₀ L s.heap m) (X : Frag.In (hd.heap_39 w.params) h₀) (N : News h₀ L s.heap news) (T : Top p loose mean mg mb h₀) (hk : cs.kind = .function)
    (hv : Ch news e val n v) (hb : (e == Str.ofString "var") = false) (hvh : handedIn val = true) (hdp : dp + 6 < recursionLimit) (hun : un + 48 < cLine)
    (hret : ∀ h' tk', Fr h₀ L h' m → News h₀ L h' news → Q (.bool false) { s with heap := h', toks := tk' }) :
    wpAny (model prog w) (ktrTop dp un gd cn cs L a ccd cl outer) (call (.ref 71) [v]) Q E s :=
  ro_says (ro := false) B F X N T hk hv (fun h => absurd (hb.symm.trans h) (by decide)) hvh hdp hun fun h' tk' F N => by rw [ro_f hb]; exact hret h' tk' F N
end
end
end
end Mine
example : True := by w_top off; trivial
local macro_rules | `(tactic| ktr_units) => `(tactic| (have hcL9 := cLine_is; (simp only [my_units, units_deeper] at *); (try dsimp only [ktrTop] at *); omega))
local macro_rules | `(tactic| k_room) => `(tactic| ktr_room)
local macro_rules | `(tactic| walk_at $s:str) => `(tactic| k_extra $s)
theorem PySem.Challenge.cw_pb0324_01_holds : PySem.Challenge.rw_pb0324_01.Holds :=
  Mine.hd (by
    k_with_none
    (k_with "compareOp NotEq ref ref" => (k_here; (with_reducible show wpAny _ _ (compareOp _ (Value.ref _) (Value.ref _)) _ _ _); k_dflt (refine' my_ne ?N ?m1 ?m2 ?i1 ?i2 ?hu ?_; (case N => k_asm); (case m1 => k_mem); (case m2 => k_mem); (case i1 => first | assumption | exact IntsAre.nil); (case i2 => first | assumption | exact IntsAre.nil); (case hu => units_room); k_whole)))
    (k_with "eval ListComp" => (k_here; (with_reducible show wpAny _ _ (eval (PySem.Expr.ListComp (PySem.Expr.Attribute _ _ _) _ _ _) _) _ _ _); k_dflt (refine LCg.ListComp_U (F₀ := by k_asm) (by rfl) (by decide) (by rfl) (by decide) (by rfl) ?_)))
    (k_with "CompSrc" => (k_here; (with_reducible show LCg.CompSrc _ _ _ _ _ _ _ (PySem.Expr.Attribute _ _ _) _ _ _ _ _ _); refine halt ?_))
    (k_with "call type:range" => (k_here; (rename Fr _ _ _ _ => F'); (rename News _ _ _ _ => N'); (with_unfolding_all refine range1_rows F' N' ?_); intro h' tk' q1' q2' q3' R' F' N' ke'))
    (k_with "subscriptTail" => (k_here; (with_reducible show wpAny _ _ (subscriptTail _ _ (Value.ref _) (Value.int _ _)) _ _ _); (with_unfolding_all refine' item4 ?k1 ?k2 ?k3 ?k4 ?_ ?k6; (case k1 => k_asm); (case k2 => k_mem); (case k3 => assumption); (case k4 => assumption); (case k6 => with_unfolding_all rfl); k_whole); intro op' t' ho'))
    (k_with "call ref" => (k_here; (with_reducible show wpAny _ _ (call (Value.ref 156) _) _ _ _); k_dflt (refine' figure_says ?k1 ?k2 ?k3 ?k4 ?k5 ?kK ?hne ?hro ?hce ?m0 ?m1 ?kd ?ku ?_; (case k1 => k_asm); (case k2 => k_asm); (case k3 => k_asm); (case k4 => walk_at "my up"); (case k5 => k_asm); (case kK => walk_at "my ral"); (case hne => k_all); (case hro => walk_at "my row"); (case hce => walk_at "my ce"); (case m0 => decide); (case m1 => decide); (case kd => ktr_room); (case ku => ktr_units); intro r' t' od' h' tk' hr0' hr1' hro' F' N'; (have hro2' := hro'; obtain ⟨i', u1', u2', hi0', hi1', hod'⟩ := hro2'))))
    (k_with "call ref" => (k_here; (with_reducible show wpAny _ _ (call (Value.ref 43) _) _ _ _); k_dflt (refine' nodes_says ?k1 ?k2 ?k3 ?k4 ?k5 ?kK ?hv ?hl ?kd ?ku ?_; (case k1 => k_asm); (case k2 => k_asm); (case k3 => k_asm); (case k4 => k_asm); (case k5 => k_asm); (case kK => walk_at "my ral"); (case hv => first | exact .inr (by assumption) | (exact .inl ⟨rfl, rfl⟩) | exact .inr (Fo.mono (by assumption) (by walk_at "my sub"))); (case hl => walk_at "my small"); (case kd => ktr_room); (case ku => ktr_units); intro fa' nf' h' tk' F' N' l1')))
    (k_with "call ref" => (k_here; (with_reducible show wpAny _ _ (call (Value.ref 50) _) _ _ _); k_dflt (refine' has_says ?k1 ?k2 ?k3 ?k4 ?k5 ?kK ?hv ?hl ?kd ?ku ?_; (case k1 => k_asm); (case k2 => k_asm); (case k3 => k_asm); (case k4 => k_asm); (case k5 => k_asm); (case kK => walk_at "my ral"); (case hv => walk_at "my fo"); (case hl => walk_at "my small"); (case kd => ktr_room); (case ku => ktr_units); intro h' tk' F' N')))
    (k_with "call ref" => (k_here; (with_reducible show wpAny _ _ (call (Value.ref 57) _) _ _ _); k_dflt (refine' desig_b ?k1 ?k2 ?k3 ?k4 ?k5 ?kK ?hv ?hb ?kd ?ku ?_; (case k1 => k_asm); (case k2 => k_asm); (case k3 => k_asm); (case k4 => k_asm); (case k5 => k_asm); (case kK => walk_at "my ral"); (case hv => walk_at "my ch"); (case hb => assumption); (case kd => ktr_room); (case ku => ktr_units); intro h' tk' F' N')))
    (k_with "call ref" => (k_here; (with_reducible show wpAny _ _ (call (Value.ref 71) _) _ _ _); k_dflt (refine' ro_bf ?k1 ?k2 ?k3 ?k4 ?k5 ?kK ?hv ?hb ?hh ?kd ?ku ?_; (case k1 => k_asm); (case k2 => k_asm); (case k3 => k_asm); (case k4 => k_asm); (case k5 => k_asm); (case kK => walk_at "my ral"); (case hv => walk_at "my ch"); (case hb => assumption); (case hh => walk_at "my ral"); (case kd => ktr_room); (case ku => ktr_units); intro h' tk' F' N')))
    (k_with "call ref" => (k_here; (with_reducible show wpAny _ _ (call (Value.ref 71) _) _ _ _); k_dflt (refine' ro_bt ?k1 ?k2 ?k3 ?k4 ?k5 ?kK ?hv ?hb ?ho ?kd ?ku ?_; (case k1 => k_asm); (case k2 => k_asm); (case k3 => k_asm); (case k4 => k_asm); (case k5 => k_asm); (case kK => walk_at "my ral"); (case hv => walk_at "my ch"); (case hb => assumption); (case ho => first | assumption | exact ObjAt.mono (by assumption) (by walk_at "my sub")); (case kd => ktr_room); (case ku => ktr_units); intro h' tk' F' N')))
    (k_with "call ref" => (k_here; (with_reducible show wpAny _ _ (call (Value.ref 64) _) _ _ _); k_dflt (refine' root_f ?k1 ?k2 ?k3 ?k4 ?k5 ?kK ?hv ?hb ?hh ?kd ?ku ?_; (case k1 => k_asm); (case k2 => k_asm); (case k3 => k_asm); (case k4 => k_asm); (case k5 => k_asm); (case kK => walk_at "my ral"); (case hv => walk_at "my ch"); (case hb => assumption); (case hh => walk_at "my ral"); (case kd => ktr_room); (case ku => ktr_units); intro h' tk' F' N')))
    (k_with "call ref" => (k_here; (with_reducible show wpAny _ _ (call (Value.ref 64) _) _ _ _); k_dflt (refine' root_t ?k1 ?k2 ?k3 ?k4 ?k5 ?kK ?hv ?hb ?hh ?kd ?ku ?_; (case k1 => k_asm); (case k2 => k_asm); (case k3 => k_asm); (case k4 => k_asm); (case k5 => k_asm); (case kK => walk_at "my ral"); (case hv => walk_at "my ch"); (case hb => assumption); (case hh => walk_at "my ral"); (case kd => ktr_room); (case ku => ktr_units); intro h' tk' F' N')))
    (k_with "call ref" => (k_here; (with_reducible show wpAny _ _ (call (Value.ref 145) _) _ _ _); k_dflt (refine' types_says ?k1 ?k2 ?k3 ?k4 ?k5 ?kK ?kd ?ku ?_; (case k1 => k_asm); (case k2 => k_asm); (case k3 => k_asm); (case k4 => k_asm); (case k5 => k_asm); (case kK => walk_at "my ral"); (case kd => ktr_room); (case ku => ktr_units); intro y' tl' h' tk' F' N' ht' hov')))
    (k_with "call ref" => (k_here; (with_reducible show wpAny _ _ (call (Value.ref 32) [_, _, _, _, _]) _ _ _); k_dflt (refine' node5_says ?k1 ?k2 ?k3 ?k4 ?k5 ?kK ?kd ?_; (case k1 => k_asm); (case k2 => k_asm); (case k3 => k_asm); (case k4 => walk_at "my up"); (case k5 => k_asm); (case kK => walk_at "my ral"); (case kd => ktr_room); (iterate 16 (intro _)); intro F' N' l1' l2'); (try k_lt l1'); (try k_lt2 l2'); (try k_sweep)))
    (k_with "call ref" => (k_here; (with_reducible show wpAny _ _ (call (Value.ref 32) [_, _, _, _]) _ _ _); k_dflt (refine' node4_says ?k1 ?k2 ?k3 ?k4 ?k5 ?kK ?kd ?_; (case k1 => k_asm); (case k2 => k_asm); (case k3 => k_asm); (case k4 => walk_at "my up"); (case k5 => k_asm); (case kK => walk_at "my ral"); (case kd => ktr_room); (iterate 16 (intro _)); intro F' N' l1' l2'); (try k_lt l1'); (try k_lt2 l2'); (try k_sweep)))
    (k_with "call ref" => (k_here; (with_reducible show wpAny _ _ (call (Value.ref 109) [_, _, _, _]) _ _ _); k_dflt (refine' obj_says ?k1 ?k2 ?k3 ?k4 ?k5 ?kK ?kd ?_; (case k1 => k_asm); (case k2 => k_asm); (case k3 => k_asm); (case k4 => walk_at "my up"); (case k5 => k_asm); (case kK => walk_at "my ral"); (case kd => ktr_room); (iterate 37 (intro _)); intro F' N' l1' l2'); (try k_lt l1'); (try k_lt2 l2'); (try k_sweep)))
    (k_with "call ref" => (k_here; (with_reducible show wpAny _ _ (call (Value.ref 163) _) _ _ _); refine halt ?_))
    k_go0
    (all_goals try k_fold)
    k_steps
    refine (show wpAny _ _ _ _ _ _ from ?_)
    (rename IntsAre _ (List.map _ _) => hI8)
    (rename Obj.IsDictOf _ _ (strPairs _) => hd8)
    (rename News _ _ _ (_ ++ _) => hN8)
    (rename TypesAt _ _ => ht8)
    obtain ⟨base, cells, N9, hne9, hrow9, hce9, hty9⟩ := law_start hN8 (by assumption) (And.right (by assumption)) hI8 ht8 hd8
    k_dflt (refine' grows_use (k := 4) ?G ?hd ?k1 ?k2 ?k3 ?k4 ?k5 ?kK ?hne ?hro ?hce ?hty ?kd ?ku ?_; (case hd => rfl); (case k1 => k_asm); (case k2 => k_asm); (case k3 => k_asm); (case k4 => walk_at "my up"); (case k5 => k_asm); (case kK => walk_at "my ral"); (case hne => k_all); (case hro => walk_at "my row"); (case hce => walk_at "my ce"); (case hty => exact TypesAt.mono (by assumption) (by walk_at "my sub")); (case kd => ktr_room); (case ku => ktr_units); (case G => exact grown_all _ (by decide)); intro r' od' tl' h' tk' F' N' G'; obtain ⟨⟨pl', hro'⟩, hov', t', x', oa', ns', ovs', nt', no', e', htup', hfo', hoa', hints', hlen'⟩ := G'; subst e'; (have q1' := IntsAre.length hints'); (have q2' := Fo.len hfo'); simp only [List.length_map, List.length_cons, List.length_nil] at q1' q2'; (have q3' := Nat.le_trans hlen' (sizeAt_le (by decide))))
    k_steps
    refine (show LCg.CompSrc _ _ _ _ _ _ _ _ _ _ _ _ _ _ from ?_)
    refine LCg.CompSrc.ledger rfl (by assumption) (by assumption) List.mem_cons_self (by rw [sizeLine_eq]; simp only [List.size_toArray, List.length_map]; omega) (fun g => comp_S ?turn (.inr ⟨_, List.mem_cons_self, rfl, _, rfl⟩) ?fin _ 0 [] (by simp) .nil)
    case turn =>
      intro d9 hd9 ys9 I9 oI9 C9 oC9 D9 m9 h9 tk9 E9 hC9 hx9 F' N'
      obtain ⟨ka9, val9, dx9, es9, n9, t91, t92, hx91, hdx9, gop9, gpl9, gka9, gval9⟩ := hfo'.at d9 hd9
      k_steps
      exact ⟨_, _, _, rfl, rfl, by assumption, by assumption⟩
    case fin =>
      intro ys9 hys9 D9 h9 tk9 F' N' hoff9
      (try k_fold)
      k_steps
      refine (show wpAny _ _ _ _ _ _ from ?_)
      (rename Fr _ _ _ _ => lF')
      (rename News _ _ _ _ => lN')
      (rename IsRange _ _ _ _ _ _ _ _ => lR')
      have hneR := tl_ne (Nat.le_refl _) (hov' (_, _) List.mem_cons_self) hne9
      with_unfolding_all refine outer_loop [Str.ofString "held", Str.ofString "first", Str.ofString "node", Str.ofString "named", Str.ofString "rooted", Str.ofString "step", Str.ofString "op"] rfl lF' (fun p hp => lN' p (List.mem_cons_of_mem _ (List.mem_cons_of_mem _ (List.mem_cons_of_mem _ (List.mem_cons_of_mem _ hp))))) lR' ⟨_, hro'⟩ ?turn2 ?done2
      clear lF' lN' lR'
      case turn2 =>
        intro od2 I2 it2 i2 t2 u2 h2 tk2 ⟨pl2, hrow2⟩ f1 f2 F' N'
        have f3 : ∀ p ∈ tl' ++ base, p.1 ≠ I2 := fun p hp => Nat.ne_of_lt (f2 p hp)
        obtain ⟨dxT, esT, nT, tiT, hT1, hT2, hT3⟩ := id hty9
        (try k_fold)
        k_steps
        all_goals (
          refine (show wpAny _ _ _ _ _ _ from ?_)
          (rename Fr _ _ _ _ => lF')
          (rename News _ _ _ _ => lN')
          (rename IsRange _ _ _ _ _ _ _ _ => lR')
          refine' chain_prepG (I := I2) (it := it2) (l := tl' ++ base) lF' ?e1 ?e2 ?e3 ?N ?hob ?hN ?hop ?hv ?hh ?hI ?hs ?hne (hce9.mono fun p hp => List.mem_append.mpr (.inr hp)) (hty9.mono fun p hp => List.mem_append.mpr (.inr hp)) ?_
          case e1 => first | (rfl) | fail
          case e2 => first | (rfl) | fail
          case e3 => first | (rfl) | fail
          case N => first | (first | exact lN' | exact news_up1 lN' | exact news_up2 lN' | exact news_up3 lN' | exact news_up4 lN' | exact news_up5 lN' | exact news_up6 lN') | fail
          case hob => first | (refine' ⟨_, _, _, ?q1, ?q2, ?q3⟩; (case q1 => k_mem); (case q2 => k_mem); (case q3 => first | k_get | with_unfolding_all exact rfl)) | fail
          case hN => first | (refine' ⟨_, _, _, _, _, ?q1, ?q2, ?q3, ?q4, ?q5, ?q6⟩; (case q1 => k_mem); (case q2 => k_mem); (case q3 => first | k_get | with_unfolding_all exact rfl); (case q4 => first | k_get | with_unfolding_all exact rfl); (case q5 => first | k_get | with_unfolding_all exact rfl); (case q6 => first | k_get | with_unfolding_all exact rfl)) | fail
          case hop => first | (assumption) | fail
          case hv => first | (first | exact fun _ => rfl | (intro e; exact absurd e (by (rename (_ == Str.ofString "var") = false => hf9); rw [hf9]; decide))) | fail
          case hh => first | (rfl) | fail
          case hI => first | (k_mem) | fail
          case hs => first | (intro p hp; simp only [List.mem_cons, hp, or_true]) | fail
          case hne => first | (k_all) | fail
          intro bs lN2 hobB hokB hIB hsB hneB hceB htyB
          clear lN'
          with_unfolding_all refine chain_loop [Str.ofString "op"] rfl lF' lN2 lR' (by omega) (by omega) (by rfl) (by rfl) (by rfl) (by assumption) hokB hobB hneB ?turn3 ?done3
          clear lF' lR' lN2 hokB
          case turn3 =>
            intro od3 tl3 v3 nm3 rt3 I3 it3 i3 t3 u3 h3 tk3 ⟨pl3, hrow3⟩ hc3 j1 j2 j3 j4 F' N'
            have hce3 : CellsIn (tl3 ++ bs) _ _ := hceB.mono fun p hp => List.mem_append.mpr (.inr hp)
            obtain ⟨dxU, esU, nU, tiU, hU1, hU2, hU3⟩ := htyB.mono (news' := tl3 ++ bs) fun p hp => List.mem_append.mpr (.inr hp)
            (try k_fold)
            k_steps
            all_goals (
              refine' chain_end3 (tl := tl3) (base := bs) (nm := nm3) (rt := rt3) (v := v3) ?F ?N ?e1 ?hx ?hdx ?gop ?gpl ?gka ?gval ?hk ?hI ?hdr ?hs j1 j4 j2 ?i1 ?i2 ?i3 ?hrow hc3 ?hop ?e2 ?e3 ?h1 ?h2 ?hm
              case F => first | assumption | fail
              case N => first | assumption | fail
              case e1 => first | rfl | fail
              case hx => first | k_mem | fail
              case hdx => first | k_mem | fail
              case gop => first | k_get | with_unfolding_all exact rfl | fail
              case gpl => first | k_get | with_unfolding_all exact rfl | fail
              case gka => first | k_get | with_unfolding_all exact rfl | fail
              case gval => first | k_get | with_unfolding_all exact rfl | fail
              case hk => first | k_mem | fail
              case hI => first | k_mem | fail
              case hdr => first | k_mem | fail
              case hs => first | (intro p hp; simp only [List.mem_cons, hp, or_true]) | fail
              case i1 => first | omega | fail
              case i2 => first | omega | fail
              case i3 => first | omega | fail
              case hrow => first | assumption | fail
              case hop => first | assumption | fail
              case e2 => first | rfl | fail
              case e3 => first | rfl | fail
              case h1 => first | rw [show nm3 = true from by assumption, Bool.true_or] | rw [show nm3 = false from by assumption, Bool.false_or] | fail
              case h2 => first | rw [show rt3 = true from by assumption, Bool.true_and] | rw [show rt3 = false from by assumption, Bool.false_and] | (rw [show rt3 = true from by assumption, Bool.true_and]; rfl) | fail
              case hm =>
                intro z z1 z2 z3 z4 z5
                have z6 : z ≠ Str.ofString "op" := not_in z5 _ (by simp)
                first | (simp only [if_neg z1, if_neg z2, if_neg z3, if_neg z4, if_neg z6, z5, Bool.false_eq_true, if_false]; done) | fail)
          case done3 =>
            intro od3 rest3 v3 nm3 rt3 e3 val3 n3 u3 h3 tk3 ⟨pl3, hrow3⟩ hch3 hnm3 hrt3 hval3 hvh3 hob3 hsub3 hne3 F' N'
            have hI3 := hsub3 _ hIB
            obtain ⟨dxo, eso, no9, ho1, ho2, ho3⟩ := id hob3
            (try k_fold)
            cases rt3
            all_goals cases nm3
            all_goals first
              | exact absurd hnm3 (by rw [hrt3, Bool.true_or]; decide)
              | skip
            all_goals first
              | (have hv9 := hval3 rfl; subst hv9)
              | skip
            all_goals k_steps
            all_goals (
              (rename Fr _ _ _ _ => lF')
              (rename News _ _ _ _ => lN')
              refine outer_end lF' lN' hI3 (fun p hp => hsub3 _ (hsB p hp)) f1 f2 (by assumption) ?_
              intro z z1 z2
              have zz := not_in z2
              have y1 : z ≠ Str.ofString "held" := zz _ (by simp)
              have y2 : z ≠ Str.ofString "first" := zz _ (by simp)
              have y3 : z ≠ Str.ofString "node" := zz _ (by simp)
              have y4 : z ≠ Str.ofString "named" := zz _ (by simp)
              have y5 : z ≠ Str.ofString "rooted" := zz _ (by simp)
              have y6 : z ≠ Str.ofString "step" := zz _ (by simp)
              have y7 : z ≠ Str.ofString "op" := zz _ (by simp)
              have z3 : List.contains [Str.ofString "op"] z = false := in_not (by intro a ha; rw [List.mem_singleton.mp ha]; exact y7)
              first | (simp only [if_neg z1, if_neg y1, if_neg y2, if_neg y3, if_neg y4, if_neg y5, if_neg y6, if_neg y7, z2, z3, Bool.false_eq_true, if_false]; done) | fail))
      case done2 =>
        intro od2 u2 h2 tk2 F' N'
        (try k_fold)
        k_steps)
