import PyProof.Rows.All
import Wide.All
import OpenK.AllK
import Wide.FinOn
import PySem.Challenge.RW_xm0810_01
set_option Elab.async false
set_option maxRecDepth 100000
section
open PySem PySem.W PySem.Spec PySem.Calls PyProof.Rows
namespace Mine
/-- the vane's list: two ints -/
abbrev vaneOf (a : Int) (ta : Tok) (b : Int) (tb : Tok) (n : Nat) : Obj := listOf #[.int a ta, .int b tb] n

/-- the ledger with one object left open -/
structure At (D : Addr) (o : Obj) (g : Obj → List (Addr × Obj)) : Prop where
  u : UpdF D o (g o) g

theorem At.turn {D : Addr} {o : Obj} {g : Obj → List (Addr × Obj)} (U : At D o g) (o' : Obj) : At D o' g := by
  obtain ⟨pre, post, a, b, c, e⟩ := U.u.split
  constructor
  rw [b o']
  have : g = fun o' => pre ++ (D, o') :: post := funext b
  subst this
  clear a b U
  induction pre with
  | nil => exact UpdF.head e
  | cons p r ih => exact UpdF.tail (g := fun o' => r ++ (D, o') :: post) (c p (.head _)) (ih fun q hq => c q (.tail _ hq))
theorem At.of {D : Addr} {o : Obj} {l : List (Addr × Obj)} {g : Obj → List (Addr × Obj)} (U : UpdF D o l g) : l = g o ∧ At D o g := by
  obtain ⟨pre, post, a, b, c, e⟩ := U.split
  have h : l = g o := a.trans (b o).symm
  exact ⟨h, ⟨h ▸ U⟩⟩
theorem At.mem {D : Addr} {o : Obj} {g : Obj → List (Addr × Obj)} (U : At D o g) : (D, o) ∈ g o := by
  obtain ⟨pre, post, a, b, c, e⟩ := U.u.split
  rw [b]
  exact List.mem_append.mpr (.inr (.head _))

section
variable {prog : Program} {w : World} {A : Around} {E : Value → Shared → Prop} {s : Shared} {h₀ : Heap} {L D : Addr} {m : Str → Option Value} {g : Obj → List (Addr × Obj)} {a b x : Int} {ta tb t u : Tok} {n : Nat}
theorem vane_get0 {value slice : PySem.Expr} {Q : Value → Shared → Prop} (N : News h₀ L s.heap (g (vaneOf a ta b tb n))) (U : At D (vaneOf a ta b tb n) g) (h : Q (.int a ta) s)
    (hs : subscripted slice false (.ref D) (.int 0 u) = operate [.ref D, .int 0 u] (getItem (.ref D) (.int 0 u)) := by with_unfolding_all rfl)
    (hg : ∀ r, letTemporaryGo value (.ref D) r = pure () := by intro _; with_unfolding_all rfl) :
    wpAny (model prog w) A (subscriptTail value slice (.ref D) (.int 0 u)) Q E s :=
  item_listL ⟨_, (N _ U.mem).1, rfl, n, rfl⟩ (by decide) (by decide) (l := [.int a ta, .int b tb]) rfl h hs hg
theorem vane_get1 {value slice : PySem.Expr} {Q : Value → Shared → Prop} (N : News h₀ L s.heap (g (vaneOf a ta b tb n))) (U : At D (vaneOf a ta b tb n) g) (h : Q (.int b tb) s)
    (hs : subscripted slice false (.ref D) (.int 1 u) = operate [.ref D, .int 1 u] (getItem (.ref D) (.int 1 u)) := by with_unfolding_all rfl)
    (hg : ∀ r, letTemporaryGo value (.ref D) r = pure () := by intro _; with_unfolding_all rfl) :
    wpAny (model prog w) A (subscriptTail value slice (.ref D) (.int 1 u)) Q E s :=
  item_listL ⟨_, (N _ U.mem).1, rfl, n, rfl⟩ (by decide) (by decide) (l := [.int a ta, .int b tb]) rfl h hs hg
theorem vane_set {Q : Unit → Shared → Prop} {k : Int} {its' : Array Value} (F : Fr h₀ L s.heap m) (N : News h₀ L s.heap (g (vaneOf a ta b tb n))) (U : At D (vaneOf a ta b tb n) g)
    (h0 : 0 ≤ k) (h1 : k < 2) (e : #[Value.int a ta, .int b tb].setIfInBounds k.toNat (.int x u) = its') (hsz : its'.size = 2)
    (h : ∀ h', Fr h₀ L h' m → News h₀ L h' (g (listOf its' n)) → Q () { s with heap := h' }) :
    wpAny (model prog w) A (setItem (.ref D) (.int k t) (.int x u)) Q E s := by
  have z := N _ U.mem
  obtain ⟨pre, post, a1, b1, c1, e1⟩ := U.u.split
  refine ki_setAt z.1 h0 (by omega) (by simpa using h1) (h _ (F.change (Heap.SameBut.update ..) z.2.1 z.2.2) ?_)
  rw [b1]
  rw [b1] at N
  exact ki_turn _ N c1 e1 e (by rw [hsz]; rfl)
theorem vane_set0 {Q : Unit → Shared → Prop} (F : Fr h₀ L s.heap m) (N : News h₀ L s.heap (g (vaneOf a ta b tb n))) (U : At D (vaneOf a ta b tb n) g)
    (h : ∀ h', Fr h₀ L h' m → News h₀ L h' (g (vaneOf x u b tb n)) → At D (vaneOf x u b tb n) g → Q () { s with heap := h' }) :
    wpAny (model prog w) A (setItem (.ref D) (.int 0 t) (.int x u)) Q E s :=
  vane_set F N U (by decide) (by decide) rfl rfl fun h' F' N' => h h' F' N' (U.turn _)
theorem vane_set1 {Q : Unit → Shared → Prop} (F : Fr h₀ L s.heap m) (N : News h₀ L s.heap (g (vaneOf a ta b tb n))) (U : At D (vaneOf a ta b tb n) g)
    (h : ∀ h', Fr h₀ L h' m → News h₀ L h' (g (vaneOf a ta x u n)) → At D (vaneOf a ta x u n) g → Q () { s with heap := h' }) :
    wpAny (model prog w) A (setItem (.ref D) (.int 1 t) (.int x u)) Q E s :=
  vane_set F N U (by decide) (by decide) rfl rfl fun h' F' N' => h h' F' N' (U.turn _)
end

/-- what a call of gust does: an int below the bound, the vane's two ints turned, neither below nought -/
def GustTells (prog : Program) (w : World) (K : Frag) (p : Program) (loose : List Str) (mean : ExcName → Option Value) (mg mb : Str → Option Value) (f : Addr) : Prop :=
  ∀ (dp un : Nat) (gd : Option (List Code)) (cn : Str) (cs : Scope) (x : Addr) (ccd : Value) (cl : List (Str × Addr)) (outer : List Env) (A₀ : Around) (base h₀ : Heap) (L : Addr) (m : Str → Option Value) (D : Addr) (g : Obj → List (Addr × Obj)) (s : Shared)
    (a b many : Int) (ta tb tk : Tok) (n : Nat) (Q E : Value → Shared → Prop),
    Below A₀ base outer h₀ → Fr h₀ L s.heap m → K.In h₀ → News h₀ L s.heap (g (vaneOf a ta b tb n)) → At D (vaneOf a ta b tb n) g → Top p loose mean mg mb h₀ → cs.kind = .function →
    0 ≤ a → 0 ≤ b → b < 1000000 → 0 < many → many ≤ 300 → dp + 1 < recursionLimit → un + 8 < cLine →
    (∀ r a' b' t ta' tb' h' tk', 0 ≤ a' → 0 ≤ b' → b' < 1000000 → 0 ≤ r → r < many → Fr h₀ L h' m → News h₀ L h' (g (vaneOf a' ta' b' tb' n)) → Q (.int r t) { s with heap := h', toks := tk' }) →
    wpAny (model prog w) (ktrTop dp un gd cn cs L x ccd cl outer) (call (.ref f) [.ref D, .int many tk]) Q E s
theorem gust_have {prog : Program} {w : World} {K : Frag} {p : Program} {loose : List Str} {mean : ExcName → Option Value} {mg mb : Str → Option Value} {f : Addr} {h : Heap} {P : Prop}
    (_T : Top p loose mean mg mb h) (_X : K.In h) (c : GustTells prog w K p loose mean mg mb f) (k : GustTells prog w K p loose mean mg mb f → P) : P := k c
end Mine
namespace Mine
theorem gust_ground {prog : Program} {w : World} {K : Frag} {view : Program} {lo : List Str} {recs : WRecords} {xl : (Str → Option Value) → Heap → Prop} {s₀ : Shared} {mg mb : Str → Option Value} {f : Addr} {h : Heap} {P : Prop}
    (_G : Ground view lo recs xl w s₀ mg mb h) (_X : K.In h) (c : ∀ mean mg mb, GustTells prog w K view (looseW view lo) mean mg mb f) (k : (∀ mean mg mb, GustTells prog w K view (looseW view lo) mean mg mb f) → P) : P := k c
end Mine
namespace Mine
theorem nn_fdiv {a b : Int} (ha : 0 ≤ a) (hb : 0 < b) : 0 ≤ a.fdiv b := by
  rw [Int.fdiv_eq_ediv_of_nonneg _ (Int.le_of_lt hb)]
  exact Int.ediv_nonneg ha (Int.le_of_lt hb)
theorem nn_fmod {a b : Int} (hb : 0 < b) : 0 ≤ a.fmod b := by
  rw [Int.fmod_eq_emod_of_nonneg _ (Int.le_of_lt hb)]
  exact Int.emod_nonneg _ (Int.ne_of_gt hb)
theorem lt_fmod {a b : Int} (hb : 0 < b) : a.fmod b < b := by
  rw [Int.fmod_eq_emod_of_nonneg _ (Int.le_of_lt hb)]
  exact Int.emod_lt_of_pos _ hb
end Mine
namespace Mine
/-- what a call of vane does: a new list of two ints, neither below nought -/
def VaneTells (prog : Program) (w : World) (K : Frag) (p : Program) (loose : List Str) (mean : ExcName → Option Value) (mg mb : Str → Option Value) (f : Addr) : Prop :=
  ∀ (dp un : Nat) (gd : Option (List Code)) (cn : Str) (cs : Scope) (x : Addr) (ccd : Value) (cl : List (Str × Addr)) (outer : List Env) (A₀ : Around) (base h₀ : Heap) (L : Addr) (m : Str → Option Value) (news : List (Addr × Obj)) (s : Shared)
    (l : Addr) (vs : List Value) (ns : List Int) (Q E : Value → Shared → Prop),
    Below A₀ base outer h₀ → Fr h₀ L s.heap m → K.In h₀ → News h₀ L s.heap news → Top p loose mean mg mb h₀ → cs.kind = .function →
    base.IsList l vs.toArray → IntsAre vs ns → ns.length < 2 ^ 62 → dp + 1 < recursionLimit → un + 8 < cLine →
    (∀ D a b ta tb h' tk', 0 ≤ a → 0 ≤ b → b < 1000000 → (∀ q ∈ news, q.1 < D) → Fr h₀ L h' m → News h₀ L h' ((D, vaneOf a ta b tb 0) :: news) → Q (.ref D) { s with heap := h', toks := tk' }) →
    wpAny (model prog w) (ktrTop dp un gd cn cs L x ccd cl outer) (call (.ref f) [.ref l]) Q E s
theorem vane_ground {prog : Program} {w : World} {K : Frag} {view : Program} {lo : List Str} {recs : WRecords} {xl : (Str → Option Value) → Heap → Prop} {s₀ : Shared} {mg mb : Str → Option Value} {f : Addr} {h : Heap} {P : Prop}
    (_G : Ground view lo recs xl w s₀ mg mb h) (_X : K.In h) (c : ∀ mean mg mb, VaneTells prog w K view (looseW view lo) mean mg mb f) (k : (∀ mean mg mb, VaneTells prog w K view (looseW view lo) mean mg mb f) → P) : P := k c
end Mine
namespace Mine
theorem rest_nn {x : Int} : 0 ≤ x.fmod 65171 + 127 := by
  have := nn_fmod (a := x) (b := 65171) (by decide)
  omega
theorem rest_lt {x : Int} : x.fmod 65171 + 127 < 1000000 := by
  have := lt_fmod (a := x) (b := 65171) (by decide)
  omega
end Mine
namespace Mine
/-- the two contracts, for every top -/
def GustAll (prog : Program) (w : World) (K : Frag) (p : Program) (loose : List Str) (f : Addr) : Prop := ∀ mean mg mb, GustTells prog w K p loose mean mg mb f
def VaneAll (prog : Program) (w : World) (K : Frag) (p : Program) (loose : List Str) (f : Addr) : Prop := ∀ mean mg mb, VaneTells prog w K p loose mean mg mb f
theorem gust_all {prog : Program} {w : World} {K : Frag} {view : Program} {lo : List Str} {recs : WRecords} {xl : (Str → Option Value) → Heap → Prop} {s₀ : Shared} {mg mb : Str → Option Value} {f : Addr} {h : Heap} {P : Prop}
    (_G : Ground view lo recs xl w s₀ mg mb h) (_X : K.In h) (c : ∀ mean mg mb, GustTells prog w K view (looseW view lo) mean mg mb f) (k : GustAll prog w K view (looseW view lo) f → P) : P := k c
theorem vane_all {prog : Program} {w : World} {K : Frag} {view : Program} {lo : List Str} {recs : WRecords} {xl : (Str → Option Value) → Heap → Prop} {s₀ : Shared} {mg mb : Str → Option Value} {f : Addr} {h : Heap} {P : Prop}
    (_G : Ground view lo recs xl w s₀ mg mb h) (_X : K.In h) (c : ∀ mean mg mb, VaneTells prog w K view (looseW view lo) mean mg mb f) (k : VaneAll prog w K view (looseW view lo) f → P) : P := k c
section
variable {prog : Program} {w : World} {K : Frag} {p : Program} {loose : List Str} {mean : ExcName → Option Value} {mg mb : Str → Option Value} {f : Addr}
  {dp un : Nat} {gd : Option (List Code)} {cn : Str} {cs : Scope} {x : Addr} {ccd : Value} {cl : List (Str × Addr)} {outer : List Env} {A₀ : Around} {base h₀ : Heap} {L : Addr} {m : Str → Option Value} {news : List (Addr × Obj)} {s : Shared} {Q E : Value → Shared → Prop}
theorem vane_use {l : Addr} {vs : List Value} {ns : List Int} (C : VaneAll prog w K p loose f) (B : Below A₀ base outer h₀) (F : Fr h₀ L s.heap m) (X : K.In h₀) (N : News h₀ L s.heap news) (T : Top p loose mean mg mb h₀) (hk : cs.kind = .function)
    (hl : base.IsList l vs.toArray) (hi : IntsAre vs ns) (hfit : ns.length < 2 ^ 62) (hd : dp + 1 < recursionLimit) (hu : un + 8 < cLine)
    (ret : ∀ D a b ta tb h' tk', 0 ≤ a → 0 ≤ b → b < 1000000 → (∀ q ∈ news, q.1 < D) → Fr h₀ L h' m → News h₀ L h' ((D, vaneOf a ta b tb 0) :: news) → Q (.ref D) { s with heap := h', toks := tk' }) :
    wpAny (model prog w) (ktrTop dp un gd cn cs L x ccd cl outer) (call (.ref f) [.ref l]) Q E s := C _ _ _ _ _ _ _ _ _ _ _ _ _ _ _ _ _ _ _ _ _ _ _ _ B F X N T hk hl hi hfit hd hu ret
theorem gust_use {D : Addr} {g : Obj → List (Addr × Obj)} {a b many : Int} {ta tb tk : Tok} {n : Nat} (C : GustAll prog w K p loose f) (B : Below A₀ base outer h₀) (F : Fr h₀ L s.heap m) (X : K.In h₀) (N : News h₀ L s.heap news)
    (U : UpdF D (vaneOf a ta b tb n) news g) (T : Top p loose mean mg mb h₀) (hk : cs.kind = .function) (ha : 0 ≤ a) (hb : 0 ≤ b) (hb1 : b < 1000000) (hm : 0 < many) (hm1 : many ≤ 300) (hd : dp + 1 < recursionLimit) (hu : un + 8 < cLine)
    (ret : ∀ r a' b' t ta' tb' h' tk', 0 ≤ a' → 0 ≤ b' → b' < 1000000 → 0 ≤ r → r < many → Fr h₀ L h' m → News h₀ L h' (g (vaneOf a' ta' b' tb' n)) → Q (.int r t) { s with heap := h', toks := tk' }) :
    wpAny (model prog w) (ktrTop dp un gd cn cs L x ccd cl outer) (call (.ref f) [.ref D, .int many tk]) Q E s := by
  obtain ⟨e, V⟩ := At.of U
  subst e
  exact C _ _ _ _ _ _ _ _ _ _ _ _ _ _ _ _ _ _ _ _ _ _ _ _ _ _ _ _ _ B F X N V T hk ha hb hb1 hm hm1 hd hu ret
end
end Mine
namespace Mine
/-- a written tuple of texts at a bounded place: some text -/
theorem menu_any {prog : Program} {w : World} {A : Around} {E : Value → Shared → Prop} {s : Shared} {value slice : PySem.Expr} {l : Addr} {vs : List Value} {ws : List PySem.Str} {i : Int} {u : Tok} {Q : Value → Shared → Prop}
    (ht : IsTup s.heap l vs.toArray) (hw : StrsAre vs ws) (h0 : 0 ≤ i) (h1 : i < (ws.length : Int)) (hfit : i < 2 ^ 63) (h : ∀ x t', x ∈ ws → Q (.str x t') s)
    (hs : subscripted slice false (.ref l) (.int i u) = operate [.ref l, .int i u] (getItem (.ref l) (.int i u)) := by with_unfolding_all rfl) :
    wpAny (model prog w) A (subscriptTail value slice (.ref l) (.int i u)) Q E s :=
  KTb.item_tup ht hw h0 h1 hfit (fun t' hlt => h _ t' (by rw [List.getD_eq_getElem?_getD, List.getElem?_eq_getElem hlt]; exact List.getElem_mem hlt)) hs
theorem range_sizes {M : Model} {A : Around} {Q E : Value → Shared → Prop} {s : Shared} {r : Int} {t : Tok} (h0 : 0 ≤ r) (h1 : r < 4)
    (p : ∀ j : Int, j = 1 ∨ j = 2 ∨ j = 3 ∨ j = 4 → wpAny M A (PySem.call (.type "range") [.int j t]) Q E s) : wpAny M A (PySem.call (.type "range") [.int (1 + r) t]) Q E s := p _ (by omega)
end Mine
namespace Mine
theorem range_four {M : Model} {A : Around} {Q E : Value → Shared → Prop} {s : Shared} {r : Int} {t : Tok} (h0 : 0 ≤ r) (h1 : r < 4)
    (p1 : wpAny M A (PySem.call (.type "range") [.int 1 t]) Q E s) (p2 : wpAny M A (PySem.call (.type "range") [.int 2 t]) Q E s)
    (p3 : wpAny M A (PySem.call (.type "range") [.int 3 t]) Q E s) (p4 : wpAny M A (PySem.call (.type "range") [.int 4 t]) Q E s) : wpAny M A (PySem.call (.type "range") [.int (1 + r) t]) Q E s := by
  have : r = 0 ∨ r = 1 ∨ r = 2 ∨ r = 3 := by omega
  rcases this with rfl | rfl | rfl | rfl
  · exact p1
  · exact p2
  · exact p3
  · exact p4
end Mine
namespace Mine
theorem ne_all {d : Addr} {l : List (Addr × Obj)} (h : AllLt d l) : ∀ p ∈ l, p.1 ≠ d := by
  induction l with
  | nil => intro p hp; cases hp
  | cons q r ih =>
    intro p hp
    cases hp with
    | head => exact Nat.ne_of_lt h.1
    | tail _ hp => exact ih h.2 p hp
theorem lt_all {d : Addr} {l : List (Addr × Obj)} (h : AllLt d l) : ∀ p ∈ l, p.1 < d := by
  induction l with
  | nil => intro p hp; cases hp
  | cons q r ih =>
    intro p hp
    cases hp with
    | head => exact h.1
    | tail _ hp => exact ih h.2 p hp
/-- what a call of the component's class does -/
def CompTells (prog : Program) (w : World) (K : Frag) (p : Program) (loose : List Str) (mean : ExcName → Option Value) (mg mb : Str → Option Value) (f : Addr) (P : Addr → Addr → Value → Value → Value → Value → Obj → Obj → Prop) : Prop :=
  ∀ (dp un : Nat) (gd : Option (List Code)) (cn : Str) (cs : Scope) (x : Addr) (ccd : Value) (cl : List (Str × Addr)) (outer : List Env) (A₀ : Around) (base h₀ : Heap) (L : Addr) (m : Str → Option Value) (news : List (Addr × Obj)) (s : Shared)
    (i a d q : Int) (ti ta td tq : Tok) (Q E : Value → Shared → Prop),
    Below A₀ base outer h₀ → Fr h₀ L s.heap m → K.In h₀ → News h₀ L s.heap news → Top p loose mean mg mb h₀ → cs.kind = .function → dp + 2 < recursionLimit → un + 8 < cLine →
    (∀ X D oX oD h' tk', P X D (.int i ti) (.int a ta) (.int d td) (.int q tq) oX oD → AllLt X news → AllLt D news → Fr h₀ L h' m → News h₀ L h' ((X, oX) :: (D, oD) :: news) → Q (.ref X) { s with heap := h', toks := tk' }) →
    wpAny (model prog w) (ktrTop dp un gd cn cs L x ccd cl outer) (call (.ref f) [.int i ti, .int a ta, .int d td, .int q tq]) Q E s
end Mine
end
section
open PySem PySem.W PySem.Spec PySem.Calls PyProof.Rows PyProof.Rows.LCg
namespace Mine
inductive All2 {α β : Type} (R : α → β → Prop) : List α → List β → Prop
  | nil : All2 R [] []
  | cons {a : α} {b : β} {as : List α} {bs : List β} : R a b → All2 R as bs → All2 R (a :: as) (b :: bs)
theorem All2.mono {α β : Type} {R R' : α → β → Prop} (h : ∀ a b, R a b → R' a b) {as : List α} {bs : List β} (x : All2 R as bs) : All2 R' as bs := by
  induction x with
  | nil => exact .nil
  | cons p _ ih => exact .cons (h _ _ p) ih
theorem All2.snoc {α β : Type} {R : α → β → Prop} {as : List α} {bs : List β} {a : α} {b : β} (x : All2 R as bs) (p : R a b) : All2 R (as ++ [a]) (bs ++ [b]) := by
  induction x with
  | nil => exact .cons p .nil
  | cons q _ ih => exact .cons q ih
theorem All2.length {α β : Type} {R : α → β → Prop} {as : List α} {bs : List β} (x : All2 R as bs) : as.length = bs.length := by
  induction x with
  | nil => rfl
  | cons _ _ ih => rw [List.length_cons, List.length_cons, ih]
theorem All2.get {α β : Type} {R : α → β → Prop} {as : List α} {bs : List β} (x : All2 R as bs) : ∀ {i : Nat} {a : α}, as[i]? = some a → ∃ b, bs[i]? = some b ∧ R a b := by
  induction x with
  | nil => intro i a h; simp at h
  | cons p _ ih =>
    intro i a h
    cases i with
    | zero => exact ⟨_, rfl, by simp at h; exact h ▸ p⟩
    | succ i => exact ih (by simpa using h)

section
variable {prog : Program} {w : World} {A : Around} {h₀ : Heap} {L : Addr} {m : Str → Option Value} {env : Env} {elt : PySem.Expr} {x : Str} {scope : Scope} {cl : List (Str × Addr)} {s : Shared} {S : List (Addr × Obj) → Prop} {P : Nat → Value → Prop} {Fin : List Value → List (Addr × Obj) → Prop}
/-- a comprehension's turns by an invariant -/
theorem rest_run {n : Nat} {J : Nat → List Value → List (Addr × Obj) → Prop}
    (turn : ∀ i ys news, J i ys news → ∀ v I oI C oC D m₂ h tk (E' : Value → Shared → Prop), P i v → NsObj oC m₂ → m₂ x = some v → Fr h₀ L h m → News h₀ L h ((I, oI) :: (C, oC) :: (D, lst ys) :: news) → Off3 I C D news → ((@Ne Nat I C) ∧ (@Ne Nat I D) ∧ (@Ne Nat C D)) →
      wpAny (model prog w) A (eval elt (compEnvC scope cl C env)) (CompEnd h₀ L m { s with heap := h, toks := tk } I oI C oC D (lst ys) S (fun y news' => J (i + 1) (ys ++ [y]) news')) E' { s with heap := h, toks := tk })
    (fin : ∀ ys news, J n ys news → Fin ys news) : ∀ (k i : Nat) (ys : List Value) (news : List (Addr × Obj)), i + k = n → J i ys news → CompRest prog w A h₀ L m env elt x scope cl s S P Fin k i ys news := by
  intro k
  induction k with
  | zero => intro i ys news e j; exact CompRest.zero (fin _ _ (by have : i = n := e; exact this ▸ j))
  | succ k ih =>
    intro i ys news e j
    refine CompRest.succ fun v I oI C oC D m₂ h tk E' hP hC hx F N off ne => wpAny_mono (turn i ys news j v I oI C oC D m₂ h tk E' hP hC hx F N off ne) (fun y s' q => ?_) fun _ _ q => q
    obtain ⟨h', tk', news', e', F', N', off', hS, hj⟩ := q
    exact ⟨h', tk', news', e', F', N', off', hS, ih _ _ _ (by omega) hj⟩

/-- every new address above every old one -/
def Above (new old : List (Addr × Obj)) : Prop := ∀ p ∈ new, ∀ q ∈ old, @LT.lt Nat _ q.1 p.1
theorem Above.nil {old : List (Addr × Obj)} : Above [] old := fun _ h => nomatch h
theorem Above.cons {old : List (Addr × Obj)} {a : Addr} {o : Obj} {new : List (Addr × Obj)} (h : AllLt a old) (r : Above new old) : Above ((a, o) :: new) old := by
  intro p hp q hq
  cases hp with
  | head => exact lt_all h q hq
  | tail _ hp => exact r p hp q hq
theorem Above.append {old a b : List (Addr × Obj)} (ha : Above a old) (hb : Above b old) : Above (a ++ b) old := fun p hp => (List.mem_append.mp hp).elim (ha p) (hb p)
theorem Above.sub {old old' a : List (Addr × Obj)} (ha : Above a old) (hs : ∀ p ∈ old', p ∈ old) : Above a old' := fun p hp q hq => ha p hp q (hs q hq)

/-- what a turn hands on: new things ahead of the ledger, all above it, and a value of which R holds -/
def TurnEnd (h₀ : Heap) (L : Addr) (m : Str → Option Value) (s : Shared) (led : List (Addr × Obj)) (R : List (Addr × Obj) → Value → Prop) (y : Value) (s' : Shared) : Prop :=
  ∃ h' tk' new, s' = { s with heap := h', toks := tk' } ∧ Fr h₀ L h' m ∧ News h₀ L h' (new ++ led) ∧ Above new led ∧ R new y
theorem TurnEnd.intro {s : Shared} {led : List (Addr × Obj)} {R : List (Addr × Obj) → Value → Prop} {y : Value} {h' : Heap} {tk' : Nat} (new : List (Addr × Obj)) (F : Fr h₀ L h' m) (N : News h₀ L h' (new ++ led)) (a : Above new led) (r : R new y) :
    TurnEnd h₀ L m s led R y { s with heap := h', toks := tk' } := ⟨h', tk', new, rfl, F, N, a, r⟩

theorem off_new {I C D : Addr} {oI oC oD : Obj} {news new : List (Addr × Obj)} (off : Off3 I C D news) (a : Above new ((I, oI) :: (C, oC) :: (D, oD) :: news)) : Off3 I C D (new ++ news) := by
  refine Off3.of fun p hp => ?_
  rcases List.mem_append.mp hp with hp | hp
  · have b := a p hp
    exact ⟨Nat.ne_of_gt (b _ (.head _)), Nat.ne_of_gt (b _ (.tail _ (.head _))), Nat.ne_of_gt (b _ (.tail _ (.tail _ (.head _))))⟩
  · exact off.mem p hp

/-- a comprehension over a list whose items are told by data, each turn making new things alone -/
theorem map_rest {ρ τ : Type} {RS : List (Addr × Obj) → Value → ρ → Prop} {RT : List (Addr × Obj) → Value → τ → Prop} {xs : List Value} {rs : List ρ} {base keep news₀ : List (Addr × Obj)} (f : ρ → τ)
    (monoS : ∀ {a b v r}, (∀ p ∈ a, p ∈ b) → RS a v r → RS b v r) (monoT : ∀ {a b v r}, (∀ p ∈ a, p ∈ b) → RT a v r → RT b v r) (monoL : ∀ {a b}, (∀ p ∈ a, p ∈ b) → S a → S b)
    (src : All2 (RS base) xs rs) (hb : ∀ p ∈ base, p ∈ news₀) (hS : S news₀)
    (turn : ∀ v r news I oI C oC D ys m₂ h tk (E' : Value → Shared → Prop), RS base v r → (∀ p ∈ news₀, p ∈ news) → NsObj oC m₂ → m₂ x = some v → Fr h₀ L h m → News h₀ L h ((I, oI) :: (C, oC) :: (D, lst ys) :: news) →
      wpAny (model prog w) A (eval elt (compEnvC scope cl C env)) (TurnEnd h₀ L m { s with heap := h, toks := tk } ((I, oI) :: (C, oC) :: (D, lst ys) :: news) (fun new y => RT (new ++ keep) y (f r))) E' { s with heap := h, toks := tk })
    (fin : ∀ ys add, Above add news₀ → All2 (RT (add ++ keep)) ys (rs.map f) → Fin ys (add ++ news₀)) :
    CompRest prog w A h₀ L m env elt x scope cl s S (fun i v => xs.toArray[i]? = some v) Fin xs.toArray.size 0 [] news₀ := by
  refine rest_run (n := xs.toArray.size) (J := fun i ys news => ∃ add, news = add ++ news₀ ∧ Above add news₀ ∧ All2 (RT (add ++ keep)) ys ((rs.take i).map f)) ?_ ?_ _ _ _ _ (Nat.zero_add _) ⟨[], rfl, Above.nil, by simpa using All2.nil⟩
  · rintro i ys news ⟨add, rfl, ab, hy⟩ v I oI C oC D m₂ h tk E' hv hC hx F N off ne
    have hv' : xs[i]? = some v := by simpa using hv
    obtain ⟨r, hr, hq⟩ := src.get hv'
    refine wpAny_mono (turn v r (add ++ news₀) I oI C oC D ys m₂ h tk E' hq (fun p hp => List.mem_append.mpr (.inr hp)) hC hx F N) (fun y s' q => ?_) fun _ _ q => q
    obtain ⟨h', tk', new, rfl, F', N', a', r'⟩ := q
    refine CompEnd.intro F' N' (new ++ (add ++ news₀)) (fun p hp => ?_) (off_new off a') (monoL (fun p hp => List.mem_append.mpr (.inr (List.mem_append.mpr (.inr hp)))) hS) ⟨new ++ add, by simp, ?_, ?_⟩
    · simp only [List.mem_cons, List.mem_append] at hp ⊢
      rcases hp with h | h | h | h | h | h <;> simp [h]
    · exact Above.append (a'.sub fun p hp => by simp [hp]) ab
    · have e : (rs.take (i + 1)).map f = (rs.take i).map f ++ [f r] := by rw [List.take_add_one, hr]; simp
      rw [e]
      refine (hy.mono fun _ _ z => monoT (fun p hp => ?_) z).snoc (monoT (fun p hp => ?_) r')
      · rw [List.append_assoc]; exact List.mem_append.mpr (.inr hp)
      · rcases List.mem_append.mp hp with hp | hp <;> simp [hp]
  · rintro ys news ⟨add, rfl, ab, hy⟩
    have hl : xs.toArray.size = rs.length := by rw [List.size_toArray]; exact src.length
    rw [hl, List.take_length] at hy
    exact fin ys add ab hy
end
end Mine
end
section
open PySem PySem.W PySem.Spec PySem.Calls PyProof.Rows PyProof.Rows.LCg
namespace Mine
structure R4 where
  i : Int
  a : Int
  d : Int
  q : Int
def rowDat (r : R4) : Dat := .tuple [.int r.i, .int r.a, .int r.d, .int r.q]
abbrev ent (w : World) (n : PySem.Str) (k : Tok) (v : Value) : DictEntry := { hash := PyData.keyHash w.params n, key := .str n k, val := v }
abbrev compD (w : World) (k1 k2 k3 k4 : Tok) (i a d q : Value) : Obj :=
  dictOf [ent w (Str.ofString "ident") k1 i, ent w (Str.ofString "across") k2 a, ent w (Str.ofString "down") k3 d, ent w (Str.ofString "quant") k4 q] 4
abbrev frameD (w : World) (k1 k2 k3 k4 k5 k6 : Tok) (kd pr hi wd cs n : Value) : Obj :=
  dictOf [ent w (Str.ofString "kind") k1 kd, ent w (Str.ofString "precision") k2 pr, ent w (Str.ofString "height") k3 hi, ent w (Str.ofString "width") k4 wd, ent w (Str.ofString "components") k5 cs, ent w (Str.ofString "n") k6 n] 6
/-- an object of the component's class, and its dict -/
def CompIn (w : World) (news : List (Addr × Obj)) (v : Value) (r : R4) : Prop :=
  ∃ X D k1 k2 k3 k4 ti ta td tq, v = .ref X ∧ (X, instObj 45 D) ∈ news ∧ (D, compD w k1 k2 k3 k4 (.int r.i ti) (.int r.a ta) (.int r.d td) (.int r.q tq)) ∈ news
theorem CompIn.mono {w : World} {a b : List (Addr × Obj)} {v : Value} {r : R4} (hs : ∀ p ∈ a, p ∈ b) (h : CompIn w a v r) : CompIn w b v r := by
  obtain ⟨X, D, k1, k2, k3, k4, ti, ta, td, tq, e, h1, h2⟩ := h
  exact ⟨X, D, k1, k2, k3, k4, ti, ta, td, tq, e, hs _ h1, hs _ h2⟩
/-- what a call of the component's class does -/
def CompTells' (prog : Program) (w : World) (K : Frag) (p : Program) (loose : List Str) (mean : ExcName → Option Value) (mg mb : Str → Option Value) (f : Addr) : Prop :=
  ∀ (dp un : Nat) (gd : Option (List Code)) (cn : Str) (cs : Scope) (x : Addr) (ccd : Value) (cl : List (Str × Addr)) (outer : List Env) (A₀ : Around) (base h₀ : Heap) (L : Addr) (m : Str → Option Value) (news : List (Addr × Obj)) (s : Shared)
    (i a d q : Int) (ti ta td tq : Tok) (Q E : Value → Shared → Prop),
    Below A₀ base outer h₀ → Fr h₀ L s.heap m → K.In h₀ → News h₀ L s.heap news → Top p loose mean mg mb h₀ → cs.kind = .function → dp + 2 < recursionLimit → un + 8 < cLine →
    (∀ (X D : Addr) k1 k2 k3 k4 h' tk', AllLt D news → @LT.lt Nat _ D X → Fr h₀ L h' m → News h₀ L h' ((X, instObj 45 D) :: (D, compD w k1 k2 k3 k4 (.int i ti) (.int a ta) (.int d td) (.int q tq)) :: news) → Q (.ref X) { s with heap := h', toks := tk' }) →
    wpAny (model prog w) (ktrTop dp un gd cn cs L x ccd cl outer) (call (.ref f) [.int i ti, .int a ta, .int d td, .int q tq]) Q E s
/-- what a call of the frame's class does -/
def FrameTells (prog : Program) (w : World) (K : Frag) (p : Program) (loose : List Str) (mean : ExcName → Option Value) (mg mb : Str → Option Value) (f : Addr) : Prop :=
  ∀ (dp un : Nat) (gd : Option (List Code)) (cn : Str) (cs : Scope) (x : Addr) (ccd : Value) (cl : List (Str × Addr)) (outer : List Env) (A₀ : Around) (base h₀ : Heap) (L : Addr) (m : Str → Option Value) (news : List (Addr × Obj)) (s : Shared)
    (kd : Str) (pr hi wd n : Int) (c : Addr) (tk tp th tw tn : Tok) (Q E : Value → Shared → Prop),
    Below A₀ base outer h₀ → Fr h₀ L s.heap m → K.In h₀ → News h₀ L s.heap news → Top p loose mean mg mb h₀ → cs.kind = .function → dp + 2 < recursionLimit → un + 8 < cLine →
    (∀ (X D : Addr) k1 k2 k3 k4 k5 k6 h' tk', AllLt D news → @LT.lt Nat _ D X → Fr h₀ L h' m → News h₀ L h' ((X, instObj 111 D) :: (D, frameD w k1 k2 k3 k4 k5 k6 (.str kd tk) (.int pr tp) (.int hi th) (.int wd tw) (.ref c) (.int n tn)) :: news) → Q (.ref X) { s with heap := h', toks := tk' }) →
    wpAny (model prog w) (ktrTop dp un gd cn cs L x ccd cl outer) (call (.ref f) [.str kd tk, .int pr tp, .int hi th, .int wd tw, .ref c, .int n tn]) Q E s
end Mine
end
section
open PySem PySem.W PySem.Spec PySem.Calls PyProof.Rows PyProof.Rows.LCg
namespace Mine
theorem srcAt_mono {h₀ : Heap} {ax : Addr} {its : Array Value} {a b : List (Addr × Obj)} (hs : ∀ p ∈ a, p ∈ b) (h : SrcAt h₀ ax its a) : SrcAt h₀ ax its b := by
  rcases h with h | ⟨o, hm, r⟩
  · exact .inl h
  · exact .inr ⟨o, hs _ hm, r⟩
abbrev RowIn (l : List (Addr × Obj)) (v : Value) (r : R4) : Prop := DatIn l v (rowDat r)
theorem row_in {l : List (Addr × Obj)} {T : Addr} {i a d q : Int} {ti ta td tq : Tok} {n : Nat} (h : (T, ({ cls := .type "tuple", data := .seq #[.int i ti, .int a ta, .int d td, .int q tq] n } : Obj)) ∈ l) : RowIn l (.ref T) ⟨i, a, d, q⟩ :=
  DatIn.tuple (vs := [.int i ti, .int a ta, .int d td, .int q tq]) h (.cons (.int _ _) (.cons (.int _ _) (.cons (.int _ _) (.cons (.int _ _) .nil))))
theorem rows_all {l : List (Addr × Obj)} {ys : List Value} {rs : List R4} (h : All2 (RowIn l) ys rs) : DatAll l ys (rs.map rowDat) := by
  induction h with
  | nil => exact .nil
  | cons p _ ih => exact .cons p ih
abbrev tup6 (a b c d e f : Value) (n : Nat) : Obj := { cls := .type "tuple", data := .seq #[a, b, c, d, e, f] n }
/-- what a call of told does with a frame -/
def ToldTells (prog : Program) (w : World) (K : Frag) (p : Program) (loose : List Str) (mean : ExcName → Option Value) (mg mb : Str → Option Value) (f : Addr) : Prop :=
  ∀ (dp un : Nat) (gd : Option (List Code)) (cn : Str) (cs : Scope) (x : Addr) (ccd : Value) (cl : List (Str × Addr)) (outer : List Env) (A₀ : Around) (base h₀ : Heap) (L : Addr) (m : Str → Option Value) (news : List (Addr × Obj)) (s : Shared)
    (fr df c : Addr) (k1 k2 k3 k4 k5 k6 tk tp th tw tn : Tok) (kd : Str) (pr hi wd n : Int) (nn : Nat) (xs : List Value) (rs : List R4) (Q E : Value → Shared → Prop),
    Below A₀ base outer h₀ → Fr h₀ L s.heap m → K.In h₀ → News h₀ L s.heap news → Top p loose mean mg mb h₀ → cs.kind = .function →
    (fr, instObj 111 df) ∈ news → (df, frameD w k1 k2 k3 k4 k5 k6 (.str kd tk) (.int pr tp) (.int hi th) (.int wd tw) (.ref c) (.int n tn)) ∈ news → (c, listOf xs.toArray nn) ∈ news → All2 (CompIn w news) xs rs → xs.toArray.size ≤ sizeLine →
    dp + 2 < recursionLimit → un + 8 < cLine →
    (∀ (T l : Addr) ys mm add h' tk', (∀ q ∈ (l, listOf ys.toArray mm) :: (add ++ news), @LT.lt Nat _ q.1 T) → (∀ q ∈ add ++ news, q.1 ≠ l) → Above add news → All2 (RowIn add) ys rs → Fr h₀ L h' m →
      News h₀ L h' ((T, tup6 (.str kd tk) (.int pr tp) (.int n tn) (.int wd tw) (.int hi th) (.ref l) 0) :: (l, listOf ys.toArray mm) :: (add ++ news)) → Q (.ref T) { s with heap := h', toks := tk' }) →
    wpAny (model prog w) (ktrTop dp un gd cn cs L x ccd cl outer) (call (.ref f) [.ref fr]) Q E s
theorem RowIn.mono {a b : List (Addr × Obj)} {v : Value} {r : R4} (hs : ∀ p ∈ a, p ∈ b) (h : RowIn a v r) : RowIn b v r := DatIn.mono hs h
section
variable {prog : Program} {w : World} {A : Around} {h₀ : Heap} {L : Addr} {m : Str → Option Value} {env : Env} {elt : PySem.Expr} {x : Str} {scope : Scope} {cl : List (Str × Addr)} {s : Shared} {Fin : List Value → List (Addr × Obj) → Prop}
/-- over a list of components, each turn a row's tuple -/
theorem told_rest {ax : Addr} {nn : Nat} {xs : List Value} {rs : List R4} {news₀ : List (Addr × Obj)} (src : All2 (CompIn w news₀) xs rs) (hm : (ax, listOf xs.toArray nn) ∈ news₀)
    (turn : ∀ X DX k1 k2 k3 k4 i a d q ti ta td tq news I oI C oC D ys m₂ h tk (E' : Value → Shared → Prop), (X, instObj 45 DX) ∈ news → (DX, compD w k1 k2 k3 k4 (.int i ti) (.int a ta) (.int d td) (.int q tq)) ∈ news → NsObj oC m₂ → m₂ x = some (.ref X) →
      Fr h₀ L h m → News h₀ L h ((I, oI) :: (C, oC) :: (D, lst ys) :: news) →
      wpAny (model prog w) A (eval elt (compEnvC scope cl C env)) (TurnEnd h₀ L m { s with heap := h, toks := tk } ((I, oI) :: (C, oC) :: (D, lst ys) :: news) (fun new y => RowIn new y ⟨i, a, d, q⟩)) E' { s with heap := h, toks := tk })
    (fin : ∀ ys add, Above add news₀ → All2 (RowIn add) ys rs → Fin ys (add ++ news₀)) :
    CompRest prog w A h₀ L m env elt x scope cl s (SrcAt h₀ ax xs.toArray) (fun i v => xs.toArray[i]? = some v) Fin xs.toArray.size 0 [] news₀ := by
  refine map_rest (RS := CompIn w) (RT := RowIn) (f := id) (base := news₀) (keep := []) CompIn.mono RowIn.mono srcAt_mono src (fun _ h => h) (Or.inr ⟨_, hm, rfl, _, rfl⟩) ?_ (fun ys add ab h => fin ys add ab (by simpa using h))
  rintro v ⟨i, a, d, q⟩ news I oI C oC D ys m₂ h tk E' ⟨X, DX, k1, k2, k3, k4, ti, ta, td, tq, rfl, h1, h2⟩ hs hC hx F N
  refine wpAny_mono (turn X DX k1 k2 k3 k4 i a d q ti ta td tq news I oI C oC D ys m₂ h tk E' (hs _ h1) (hs _ h2) hC hx F N) (fun y s' z => ?_) fun _ _ z => z
  obtain ⟨h', tk', new, e, F', N', a', r'⟩ := z
  exact ⟨h', tk', new, e, F', N', a', by simpa using r'⟩
end
end Mine
namespace Mine
section
variable {α : Type} {p a b c d e f g h : α} {l : List α}
theorem mt1 (q : p ∈ l) : p ∈ a :: l := List.mem_cons_of_mem _ q
theorem mt2 (q : p ∈ l) : p ∈ a :: b :: l := mt1 (mt1 q)
theorem mt3 (q : p ∈ l) : p ∈ a :: b :: c :: l := mt1 (mt2 q)
theorem mt4 (q : p ∈ l) : p ∈ a :: b :: c :: d :: l := mt1 (mt3 q)
theorem mt5 (q : p ∈ l) : p ∈ a :: b :: c :: d :: e :: l := mt1 (mt4 q)
theorem mt6 (q : p ∈ l) : p ∈ a :: b :: c :: d :: e :: f :: l := mt1 (mt5 q)
theorem mt7 (q : p ∈ l) : p ∈ a :: b :: c :: d :: e :: f :: g :: l := mt1 (mt6 q)
theorem mt8 (q : p ∈ l) : p ∈ a :: b :: c :: d :: e :: f :: g :: h :: l := mt1 (mt7 q)
end
end Mine
namespace Mine
theorem off1_all {D : Addr} : ∀ {l : List (Addr × Obj)}, Off1 D l → ∀ q ∈ l, q.1 ≠ D
  | [], _, _, h => nomatch h
  | _ :: _, x, p, h => by
    rcases List.mem_cons.mp h with rfl | h
    · exact x.1
    · exact off1_all x.2 p h
end Mine
namespace Mine
theorem mt0 {α : Type} {p : α} {k l : List α} (q : p ∈ l) : p ∈ k ++ l := List.mem_append.mpr (.inr q)
end Mine
namespace Mine
theorem news_drop2 {h₀ h : Heap} {L : Addr} {a b t : Addr × Obj} {l : List (Addr × Obj)} (N : News h₀ L h (a :: b :: t :: l)) : News h₀ L h (a :: b :: l) := fun p hp => N p (by
  rcases List.mem_cons.mp hp with rfl | hp
  · exact .head _
  · rcases List.mem_cons.mp hp with rfl | hp
    · exact .tail _ (.head _)
    · exact .tail _ (.tail _ (.tail _ hp)))
end Mine
end
section
open PySem PySem.W PySem.Spec PySem.Calls PyProof.Rows PyProof.Rows.LCg
namespace Mine
def swapping : List PySem.Str := [Str.ofString "left", Str.ofString "right", Str.ofString "swap", Str.ofString "cross"]
def goals : List PySem.Str := [Str.ofString "stay", Str.ofString "left", Str.ofString "back", Str.ofString "right", Str.ofString "mirror", Str.ofString "flip", Str.ofString "swap", Str.ofString "cross"]
def up (g : PySem.Str) : Bool := swapping.any (· == g)
def turnR (b : Bool) (r : R4) : R4 := if b then ⟨r.i, r.d, r.a, r.q⟩ else r
theorem in_swap {prog : Program} {w : World} {A : Around} {E : Value → Shared → Prop} {s : Shared} {t : Addr} {vs : List Value} {x : PySem.Str} {u : Tok} {b : Bool} {Q : Value → Shared → Prop} (ht : IsTup s.heap t vs.toArray) (hi : StrsAre vs swapping) (hb : up x = b)
    (h : Q (.bool b) s) : wpAny (model prog w) A (compareOp .In (.str x u) (.ref t)) Q E s :=
  in_tuple_strs ht (by simpa using hi) (by unfold up at hb; rw [hb]; exact h)

section
variable {prog : Program} {w : World} {A : Around} {E : Value → Shared → Prop} {s : Shared} {env : Env} {h₀ : Heap} {body : List Stmt} {Q : Flow → Shared → Prop}
abbrev pinned (x : PySem.Str) (v : Value) (fr lst : Addr) (b : Bool) (m : Str → Option Value) : Str → Option Value :=
  fun y => if y = x then some v else if y = Str.ofString "frame" then some (.ref fr) else if y = Str.ofString "swaps" then some (.bool b) else if y = Str.ofString "components" then some (.ref lst) else m y
theorem pin_eq {x : PySem.Str} {v : Value} {fr lst : Addr} {b : Bool} {m : Str → Option Value} (h1 : m (Str.ofString "frame") = some (.ref fr)) (h2 : m (Str.ofString "swaps") = some (.bool b)) (h3 : m (Str.ofString "components") = some (.ref lst)) :
    (fun y => if y = x then some v else m y) = pinned x v fr lst b m := by
  funext y
  unfold pinned
  by_cases e : y = x
  · rw [if_pos e, if_pos e]
  · rw [if_neg e, if_neg e]
    by_cases e1 : y = Str.ofString "frame"
    · rw [if_pos e1, e1, h1]
    · rw [if_neg e1]
      by_cases e2 : y = Str.ofString "swaps"
      · rw [if_pos e2, e2, h2]
      · rw [if_neg e2]
        by_cases e3 : y = Str.ofString "components"
        · rw [if_pos e3, e3, h3]
        · rw [if_neg e3]

/-- what a turn of the turning loop leaves -/
def TurnedPost (w : World) (h₀ : Heap) (L : Addr) (s : Shared) (fr lst : Addr) (b : Bool) (ys : List Value) (rest : List (Addr × Obj)) (r : R4) (f : Flow) (s' : Shared) : Prop :=
  f = .next ∧ ∃ h' tk' m' X D k1 k2 k3 k4 ti ta td tq mm, s' = { s with heap := h', toks := tk' } ∧ Fr h₀ L h' m' ∧ m' (Str.ofString "frame") = some (.ref fr) ∧ m' (Str.ofString "swaps") = some (.bool b) ∧ m' (Str.ofString "components") = some (.ref lst) ∧
    News h₀ L h' ((X, instObj 45 D) :: (D, compD w k1 k2 k3 k4 (.int r.i ti) (.int r.a ta) (.int r.d td) (.int r.q tq)) :: (lst, listOf (ys ++ [Value.ref X]).toArray mm) :: rest) ∧
    @LT.lt Nat _ lst D ∧ AllLt D rest ∧ @LT.lt Nat _ D X

theorem turned_iter {l lst fr : Addr} {xs : List Value} {nn mm₀ : Nat} {rs : List R4} {news : List (Addr × Obj)} {m₀ : Str → Option Value} {b : Bool}
    (hh : A.handled = none) (F : Fr h₀ env.locals s.heap m₀) (N : News h₀ env.locals s.heap ((lst, listOf ([] : List Value).toArray mm₀) :: news)) (hlst : ∀ p ∈ news, p.1 ≠ lst) (hl : (l, listOf xs.toArray nn) ∈ news) (src : All2 (CompIn w news) xs rs) (hsz : xs.toArray.size ≤ sizeLine)
    (hm1 : m₀ (Str.ofString "frame") = some (.ref fr)) (hm2 : m₀ (Str.ofString "swaps") = some (.bool b)) (hm3 : m₀ (Str.ofString "components") = some (.ref lst))
    (turn : ∀ ys mm rest X DX k1 k2 k3 k4 i a d q ti ta td tq m₁ h tk, (X, instObj 45 DX) ∈ rest → (DX, compD w k1 k2 k3 k4 (.int i ti) (.int a ta) (.int d td) (.int q tq)) ∈ rest → (∀ p ∈ rest, p.1 ≠ lst) → ys.toArray.size ≤ sizeLine →
      Fr h₀ env.locals h (pinned (Str.ofString "component") (.ref X) fr lst b m₁) → News h₀ env.locals h ((lst, listOf ys.toArray mm) :: rest) →
      wpAny (model prog w) A (execs body env) (TurnedPost w h₀ env.locals { s with heap := h, toks := tk } fr lst b ys rest (turnR b ⟨i, a, d, q⟩)) E { s with heap := h, toks := tk })
    (done : ∀ ys mm add m₁ h tk, (∀ p ∈ add ++ news, p.1 ≠ lst) → Above add news → All2 (CompIn w add) ys (rs.map (turnR b)) → Fr h₀ env.locals h (pinned (Str.ofString "frame") (.ref fr) fr lst b m₁) → News h₀ env.locals h ((lst, listOf ys.toArray mm) :: (add ++ news)) → Q .next { s with heap := h, toks := tk }) :
    wpAny (model prog w) A (pyIter (.ref l)) (fun it s₂ => LoopAtV prog w A h₀ env (Str.ofString "component") body Q E it s₂) E s := by
  refine kdl_iter (fun i m nx => m (Str.ofString "frame") = some (.ref fr) ∧ m (Str.ofString "swaps") = some (.bool b) ∧ m (Str.ofString "components") = some (.ref lst) ∧
    ∃ ys mm add, nx = (lst, listOf ys.toArray mm) :: (add ++ news) ∧ (∀ p ∈ add ++ news, p.1 ≠ lst) ∧ Above add news ∧ All2 (CompIn w add) ys ((rs.take i).map (turnR b)))
    hh (List.mem_cons_of_mem _ hl) F N ⟨hm1, hm2, hm3, [], mm₀, [], rfl, hlst, Above.nil, by simpa using All2.nil⟩ ?_ ?_
  · rintro i v m₁ nx h tk own hv hoff hlm ⟨e1, e2, e3, ys, mm, add, rfl, hne, ab, hy⟩ F₁ N₁
    obtain ⟨⟨ri, ra, rd, rq⟩, hr, X, DX, k1, k2, k3, k4, ti, ta, td, tq, rfl, h1, h2⟩ := src.get hv
    rw [pin_eq e1 e2 e3] at F₁
    have sub : ∀ p ∈ news, p ∈ add ++ news ++ own := fun p hp => List.mem_append.mpr (.inl (List.mem_append.mpr (.inr hp)))
    have hne' : ∀ p ∈ add ++ news ++ own, p.1 ≠ lst := fun p hp => by
      rcases List.mem_append.mp hp with hp | hp
      · exact hne p hp
      · exact hoff p hp _ (by simp)
    have hys : ys.toArray.size ≤ sizeLine := by
      have e1 := hy.length
      have e2 := src.length
      have e3 : i < xs.length := (List.getElem?_eq_some_iff.mp hv).1
      rw [List.size_toArray] at hsz ⊢
      rw [List.length_map, List.length_take] at e1
      omega
    refine wpAny_mono (turn ys mm (add ++ news ++ own) X DX k1 k2 k3 k4 ri ra rd rq ti ta td tq m₁ h tk (sub _ h1) (sub _ h2) hne' hys F₁ N₁) (fun f s₂ p => ?_) fun _ _ x => x
    obtain ⟨rfl, h', tk', m', X', D', j1, j2, j3, j4, ui, ua, ud, uq, mm', rfl, F', g1, g2, g3, N', l1, l2, l3⟩ := p
    have lt := lt_all l2
    refine ⟨h', tk', m', _, (lst, listOf (ys ++ [Value.ref X']).toArray mm') :: ((X', instObj 45 D') :: (D', compD w j1 j2 j3 j4 (.int (turnR b ⟨ri, ra, rd, rq⟩).i ui) (.int (turnR b ⟨ri, ra, rd, rq⟩).a ua) (.int (turnR b ⟨ri, ra, rd, rq⟩).d ud) (.int (turnR b ⟨ri, ra, rd, rq⟩).q uq)) :: add ++ news), rfl, F', N', ?_, ?_, ?_, ?_, g1, g2, g3, ys ++ [Value.ref X'], mm', _ :: _ :: add, rfl, ?_, ?_, ?_⟩
    · intro p hp
      simp only [List.mem_cons, List.mem_append, List.cons_append] at hp ⊢
      rcases hp with h | h | h | h | h <;> simp [h]
    · intro p hp
      simp [hp]
    · intro p hp c hc
      have lp := lt p (List.mem_append.mpr (.inr hp))
      simp only [List.map_cons, List.mem_cons, List.cons_append] at hc
      rcases hc with rfl | rfl | rfl | hc
      · exact hoff p hp _ (by simp)
      · exact Nat.ne_of_lt (Nat.lt_trans lp l3)
      · exact Nat.ne_of_lt lp
      · exact hoff p hp _ (List.mem_cons_of_mem _ hc)
    · simp [hl]
    · intro p hp
      simp only [List.cons_append, List.mem_cons] at hp
      rcases hp with rfl | rfl | hp
      · exact Nat.ne_of_gt (Nat.lt_trans l1 l3)
      · exact Nat.ne_of_gt l1
      · exact hne p hp
    · have lo : ∀ q ∈ news, @LT.lt Nat _ q.1 D' := fun q hq => lt q (by simp [hq])
      intro p hp q hq
      simp only [List.mem_cons] at hp
      rcases hp with rfl | rfl | hp
      · exact Nat.lt_trans (lo q hq) l3
      · exact lo q hq
      · exact ab p hp q hq
    · have e : (rs.take (i + 1)).map (turnR b) = (rs.take i).map (turnR b) ++ [turnR b ⟨ri, ra, rd, rq⟩] := by rw [List.take_add_one, hr]; simp
      rw [e]
      refine (hy.mono fun _ _ z => z.mono fun p hp => by simp [hp]).snoc ⟨X', D', j1, j2, j3, j4, ui, ua, ud, uq, rfl, by simp, by simp⟩
  · rintro m₁ nx h tk ⟨e1, e2, e3, ys, mm, add, rfl, hne, ab, hy⟩ F₁ N₁
    have hl' : xs.length = rs.length := src.length
    rw [hl', List.take_length] at hy
    refine done ys mm add m₁ h tk hne ab hy ?_ N₁
    have e : m₁ = fun y => if y = Str.ofString "frame" then some (.ref fr) else m₁ y := by
      funext y
      by_cases e : y = Str.ofString "frame"
      · rw [if_pos e, e, e1]
      · rw [if_neg e]
    rw [← pin_eq e1 e2 e3, ← e]
    exact F₁
/-- what a call of turned_frame does -/
def TurnedTells (prog : Program) (w : World) (K : Frag) (p : Program) (loose : List Str) (mean : ExcName → Option Value) (mg mb : Str → Option Value) (f : Addr) : Prop :=
  ∀ (dp un : Nat) (gd : Option (List Code)) (cn : Str) (cs : Scope) (x : Addr) (ccd : Value) (cl : List (Str × Addr)) (outer : List Env) (A₀ : Around) (base h₀ : Heap) (L : Addr) (m : Str → Option Value) (news : List (Addr × Obj)) (s : Shared)
    (fr df c : Addr) (k1 k2 k3 k4 k5 k6 tk tp th tw tn tg : Tok) (kd g : Str) (pr hi wd n : Int) (nn : Nat) (xs : List Value) (rs : List R4) (b : Bool) (Q E : Value → Shared → Prop),
    Below A₀ base outer h₀ → Fr h₀ L s.heap m → K.In h₀ → News h₀ L s.heap news → Top p loose mean mg mb h₀ → cs.kind = .function →
    (fr, instObj 111 df) ∈ news → (df, frameD w k1 k2 k3 k4 k5 k6 (.str kd tk) (.int pr tp) (.int hi th) (.int wd tw) (.ref c) (.int n tn)) ∈ news → (c, listOf xs.toArray nn) ∈ news → All2 (CompIn w news) xs rs → xs.toArray.size ≤ sizeLine → up g = b →
    A₀.handled = none → dp + 4 < recursionLimit → un + 24 < cLine →
    (∀ (X D : Addr) j1 j2 j3 j4 j5 j6 uh uw lst ys mm add h' tk', Above add news → All2 (CompIn w add) ys (rs.map (turnR b)) → Fr h₀ L h' m →
      News h₀ L h' ((X, instObj 111 D) :: (D, frameD w j1 j2 j3 j4 j5 j6 (.str kd tk) (.int pr tp) (.int (if b then wd else hi) uh) (.int (if b then hi else wd) uw) (.ref lst) (.int n tn)) :: (lst, listOf ys.toArray mm) :: (add ++ news)) → Q (.ref X) { s with heap := h', toks := tk' }) →
    wpAny (model prog w) (ktrTop dp un gd cn cs L x ccd cl outer) (call (.ref f) [.ref fr, .str g tg]) Q E s
end
end Mine
namespace Mine
def CompAll (prog : Program) (w : World) (K : Frag) (p : Program) (loose : List Str) (f : Addr) : Prop := ∀ mean mg mb, CompTells' prog w K p loose mean mg mb f
def FrameAll (prog : Program) (w : World) (K : Frag) (p : Program) (loose : List Str) (f : Addr) : Prop := ∀ mean mg mb, FrameTells prog w K p loose mean mg mb f
def ToldAll (prog : Program) (w : World) (K : Frag) (p : Program) (loose : List Str) (f : Addr) : Prop := ∀ mean mg mb, ToldTells prog w K p loose mean mg mb f
def TurnedAll (prog : Program) (w : World) (K : Frag) (p : Program) (loose : List Str) (f : Addr) : Prop := ∀ mean mg mb, TurnedTells prog w K p loose mean mg mb f
section
variable {prog : Program} {w : World} {K : Frag} {p : Program} {loose : List Str} {mean : ExcName → Option Value} {mg mb : Str → Option Value} {f : Addr}
  {dp un : Nat} {gd : Option (List Code)} {cn : Str} {cs : Scope} {x : Addr} {ccd : Value} {cl : List (Str × Addr)} {outer : List Env} {A₀ : Around} {base h₀ : Heap} {L : Addr} {m : Str → Option Value} {news : List (Addr × Obj)} {s : Shared} {Q E : Value → Shared → Prop}
theorem comp_use {i a d q : Int} {ti ta td tq : Tok} (C : CompAll prog w K p loose f) (B : Below A₀ base outer h₀) (F : Fr h₀ L s.heap m) (X : K.In h₀) (N : News h₀ L s.heap news) (T : Top p loose mean mg mb h₀) (hk : cs.kind = .function)
    (hd : dp + 2 < recursionLimit) (hu : un + 8 < cLine)
    (ret : ∀ (X D : Addr) k1 k2 k3 k4 h' tk', AllLt D news → @LT.lt Nat _ D X → Fr h₀ L h' m → News h₀ L h' ((X, instObj 45 D) :: (D, compD w k1 k2 k3 k4 (.int i ti) (.int a ta) (.int d td) (.int q tq)) :: news) → Q (.ref X) { s with heap := h', toks := tk' }) :
    wpAny (model prog w) (ktrTop dp un gd cn cs L x ccd cl outer) (call (.ref f) [.int i ti, .int a ta, .int d td, .int q tq]) Q E s := by
  have c := C mean mg mb
  unfold CompTells' at c
  exact c dp un gd cn cs x ccd cl outer A₀ base h₀ L m news s i a d q ti ta td tq Q E B F X N T hk hd hu ret
theorem frame_use {kd : Str} {pr hi wd n : Int} {c : Addr} {tk tp th tw tn : Tok} (C : FrameAll prog w K p loose f) (B : Below A₀ base outer h₀) (F : Fr h₀ L s.heap m) (X : K.In h₀) (N : News h₀ L s.heap news) (T : Top p loose mean mg mb h₀) (hk : cs.kind = .function)
    (hd : dp + 2 < recursionLimit) (hu : un + 8 < cLine)
    (ret : ∀ (X D : Addr) k1 k2 k3 k4 k5 k6 h' tk', AllLt D news → @LT.lt Nat _ D X → Fr h₀ L h' m → News h₀ L h' ((X, instObj 111 D) :: (D, frameD w k1 k2 k3 k4 k5 k6 (.str kd tk) (.int pr tp) (.int hi th) (.int wd tw) (.ref c) (.int n tn)) :: news) → Q (.ref X) { s with heap := h', toks := tk' }) :
    wpAny (model prog w) (ktrTop dp un gd cn cs L x ccd cl outer) (call (.ref f) [.str kd tk, .int pr tp, .int hi th, .int wd tw, .ref c, .int n tn]) Q E s := by
  have q := C mean mg mb
  unfold FrameTells at q
  exact q dp un gd cn cs x ccd cl outer A₀ base h₀ L m news s kd pr hi wd n c tk tp th tw tn Q E B F X N T hk hd hu ret
end
end Mine
namespace Mine
theorem TurnedPost.intro {w : World} {h₀ : Heap} {L : Addr} {s : Shared} {fr lst : Addr} {b : Bool} {ys : List Value} {rest led : List (Addr × Obj)} {r : R4} {h' : Heap} {tk' : Nat} {m' : Str → Option Value} {X D : Addr} {k1 k2 k3 k4 ti ta td tq : Tok} {mm : Nat}
    (F : Fr h₀ L h' m') (N : News h₀ L h' led) (g1 : m' (Str.ofString "frame") = some (.ref fr)) (g2 : m' (Str.ofString "swaps") = some (.bool b)) (g3 : m' (Str.ofString "components") = some (.ref lst))
    (hX : (X, instObj 45 D) ∈ led) (hD : (D, compD w k1 k2 k3 k4 (.int r.i ti) (.int r.a ta) (.int r.d td) (.int r.q tq)) ∈ led) (hl : (lst, listOf (ys.toArray.push (.ref X)) mm) ∈ led) (hr : ∀ p ∈ rest, p ∈ led)
    (l1 : @LT.lt Nat _ lst D) (l2 : AllLt D rest) (l3 : @LT.lt Nat _ D X) : TurnedPost w h₀ L s fr lst b ys rest r .next { s with heap := h', toks := tk' } := by
  refine ⟨rfl, h', tk', m', X, D, k1, k2, k3, k4, ti, ta, td, tq, mm, rfl, F, g1, g2, g3, ?_, l1, l2, l3⟩
  intro p hp
  rcases List.mem_cons.mp hp with rfl | hp
  · exact N _ hX
  · rcases List.mem_cons.mp hp with rfl | hp
    · exact N _ hD
    · rcases List.mem_cons.mp hp with rfl | hp
      · rw [List.push_toArray] at hl
        exact N _ hl
      · exact N _ (hr _ hp)
theorem nlt {a b : Nat} (h : a < b) : @LT.lt Nat _ a b := h
theorem sub1 {α : Type} {a : α} {l l' : List α} (h : ∀ p ∈ l, p ∈ l') : ∀ p ∈ l, p ∈ a :: l' := fun p hp => List.mem_cons_of_mem _ (h p hp)
theorem sub0 {α : Type} {l : List α} : ∀ p ∈ l, p ∈ l := fun _ h => h
end Mine
end
section
open PySem PySem.W PySem.Spec PySem.Calls PyProof.Rows PyProof.Rows.LCg
namespace Mine
structure VaneOk (a b : Int) : Prop where
  la : 0 ≤ a
  lb : 0 ≤ b
  lc : b < 1000000
structure Drawn (r many : Int) : Prop where
  lo : 0 ≤ r
  hi : r < many
theorem range_facts {r : Int} (h : Drawn r 4) : Builtin.Range.small 0 (1 + r) 1 = true ∧ Builtin.Range.rangeSize 0 (1 + r) 1 = (((1 + r).toNat : Nat) : Int) ∧ (1 + r).toNat ≤ sizeLine ∧ (1 + r).toNat ≤ 4 := by
  obtain ⟨h0, h1⟩ := h
  have : r = 0 ∨ r = 1 ∨ r = 2 ∨ r = 3 := by omega
  rcases this with rfl | rfl | rfl | rfl <;> decide
section
variable {prog : Program} {w : World} {K : Frag} {p : Program} {loose : List Str} {mean : ExcName → Option Value} {mg mb : Str → Option Value} {f : Addr}
  {dp un : Nat} {gd : Option (List Code)} {cn : Str} {cs : Scope} {x : Addr} {ccd : Value} {cl : List (Str × Addr)} {outer : List Env} {A₀ : Around} {base h₀ : Heap} {L : Addr} {m : Str → Option Value} {news : List (Addr × Obj)} {s : Shared} {Q E : Value → Shared → Prop}
theorem vane_use' {l : Addr} {vs : List Value} {ns : List Int} (C : VaneAll prog w K p loose f) (B : Below A₀ base outer h₀) (F : Fr h₀ L s.heap m) (X : K.In h₀) (N : News h₀ L s.heap news) (T : Top p loose mean mg mb h₀) (hk : cs.kind = .function)
    (hl : base.IsList l vs.toArray) (hi : IntsAre vs ns) (hfit : ns.length < 2 ^ 62) (hd : dp + 1 < recursionLimit) (hu : un + 8 < cLine)
    (ret : ∀ (D : Addr) a b ta tb h' tk', VaneOk a b → (∀ q ∈ news, q.1 < D) → Fr h₀ L h' m → News h₀ L h' ((D, vaneOf a ta b tb 0) :: news) → Q (.ref D) { s with heap := h', toks := tk' }) :
    wpAny (model prog w) (ktrTop dp un gd cn cs L x ccd cl outer) (call (.ref f) [.ref l]) Q E s :=
  vane_use C B F X N T hk hl hi hfit hd hu fun D a b ta tb h' tk' h1 h2 h3 l F' N' => ret D a b ta tb h' tk' ⟨h1, h2, h3⟩ l F' N'
theorem gust_use' {D : Addr} {g : Obj → List (Addr × Obj)} {a b many : Int} {ta tb tk : Tok} {n : Nat} (C : GustAll prog w K p loose f) (B : Below A₀ base outer h₀) (F : Fr h₀ L s.heap m) (X : K.In h₀) (N : News h₀ L s.heap news)
    (U : UpdF D (vaneOf a ta b tb n) news g) (T : Top p loose mean mg mb h₀) (hk : cs.kind = .function) (hv : VaneOk a b) (hm : 0 < many) (hm1 : many ≤ 300) (hd : dp + 1 < recursionLimit) (hu : un + 8 < cLine)
    (ret : ∀ r a' b' t ta' tb' h' tk', VaneOk a' b' → Drawn r many → Fr h₀ L h' m → News h₀ L h' (g (vaneOf a' ta' b' tb' n)) → Q (.int r t) { s with heap := h', toks := tk' }) :
    wpAny (model prog w) (ktrTop dp un gd cn cs L x ccd cl outer) (call (.ref f) [.ref D, .int many tk]) Q E s :=
  gust_use C B F X N U T hk hv.la hv.lb hv.lc hm hm1 hd hu fun r a' b' t ta' tb' h' tk' h1 h2 h3 h4 h5 F' N' => ret r a' b' t ta' tb' h' tk' ⟨h1, h2, h3⟩ ⟨h4, h5⟩ F' N'
end
section
variable {prog : Program} {w : World} {A : Around} {E : Value → Shared → Prop} {s : Shared} {h₀ : Heap} {L : Addr} {m : Str → Option Value} {news : List (Addr × Obj)}
/-- a menu made at the spot: an item of it, the menu forgotten -/
theorem menu_text {value slice : PySem.Expr} {l : Addr} {vs : List Value} {ws : List PySem.Str} {n : Nat} {i many : Int} {u : Tok} {Q : Value → Shared → Prop}
    (N : News h₀ L s.heap ((l, ({ cls := .type "tuple", data := .seq vs.toArray n } : Obj)) :: news)) (hw : StrsAre vs ws) (hr : Drawn i many) (hm : many = (ws.length : Int)) (hf : many ≤ 300)
    (h : ∀ x t', x ∈ ws → News h₀ L s.heap news → Q (.str x t') s)
    (hs : subscripted slice false (.ref l) (.int i u) = operate [.ref l, .int i u] (getItem (.ref l) (.int i u)) := by with_unfolding_all rfl) :
    wpAny (model prog w) A (subscriptTail value slice (.ref l) (.int i u)) Q E s :=
  menu_any (News.isTup N (.head _)) hw hr.lo (hm ▸ hr.hi) (by have := hr.hi; omega) (fun x t' hx => h x t' hx fun p hp => N p (.tail _ hp)) hs
theorem menu_int {value slice : PySem.Expr} {l : Addr} {vs : List Value} {ws : List Int} {n : Nat} {i many : Int} {u : Tok} {Q : Value → Shared → Prop}
    (N : News h₀ L s.heap ((l, ({ cls := .type "tuple", data := .seq vs.toArray n } : Obj)) :: news)) (hw : IntsAre vs ws) (hr : Drawn i many) (hm : many = (ws.length : Int)) (hf : many ≤ 300)
    (h : ∀ x t', News h₀ L s.heap news → Q (.int x t') s)
    (hs : subscripted slice false (.ref l) (.int i u) = operate [.ref l, .int i u] (getItem (.ref l) (.int i u)) := by with_unfolding_all rfl) :
    wpAny (model prog w) A (subscriptTail value slice (.ref l) (.int i u)) Q E s :=
  item_anyT (News.isTup N (.head _)) hw hr.lo (hm ▸ hr.hi) (by have := hr.hi; omega) (fun t' => h _ t' fun p hp => N p (.tail _ hp)) hs
end
/-- one statement, then the rest from what is known behind it -/
def StageEnd (Mid : Shared → Prop) (f : Flow) (s' : Shared) : Prop := f = .next ∧ Mid s'
theorem stage {M : Model} {A : Around} {Q : Flow → Shared → Prop} {E : Value → Shared → Prop} {s : Shared} {env : Env} {st : Stmt} {rest : List Stmt} (Mid : Shared → Prop) (a : wpAny M A (exec st env) (StageEnd Mid) E s)
    (b : ∀ s', Mid s' → wpAny M A (execs rest env) Q E s') : wpAny M A (execs (st :: rest) env) Q E s :=
  wpAny_execs_cons (wpAny_mono a (fun f s' h => by obtain ⟨rfl, h⟩ := h; exact b s' h) fun _ _ h => h)
theorem stage3 {M : Model} {A : Around} {Q : Flow → Shared → Prop} {E : Value → Shared → Prop} {s : Shared} {env : Env} {s1 s2 s3 : Stmt} {rest : List Stmt} (Mid : Shared → Prop)
    (a : wpAny M A (exec s1 env) (StageEnd fun t1 => wpAny M A (exec s2 env) (StageEnd fun t2 => wpAny M A (exec s3 env) (StageEnd Mid) E t2) E t1) E s)
    (b : ∀ s', Mid s' → wpAny M A (execs rest env) Q E s') : wpAny M A (execs (s1 :: s2 :: s3 :: rest) env) Q E s :=
  stage _ a fun _ h1 => stage _ h1 fun _ h2 => stage _ h2 b
end Mine
end
section
open PySem PySem.W PySem.Spec PySem.Calls PyProof.Rows PyProof.Rows.LCg
namespace Mine
theorem stage_next {M : Model} {A : Around} {α : Type} {t : Sem α} {Q : α → Shared → Prop} {E : Value → Shared → Prop} {s' : Shared} (h : wpAny M A t Q E s') : StageEnd (fun t1 => wpAny M A t Q E t1) .next s' := ⟨rfl, h⟩
def kinds : List PySem.Str := [Str.ofString "baseline", Str.ofString "extended", Str.ofString "progressive", Str.ofString "arith", Str.ofString "arith progressive"]
abbrev maps1 (kd : PySem.Str) (tkd : Tok) (wd : Int) (twd : Tok) (hi : Int) (thi : Tok) (sd : Int) (tsd : Tok) (m₀ : Str → Option Value) : Str → Option Value :=
  fun y => if y = Str.ofString "wide" then some (.int wd twd) else if y = Str.ofString "high" then some (.int hi thi) else if y = Str.ofString "side" then some (.int sd tsd) else if y = Str.ofString "kind" then some (.str kd tkd) else m₀ y
/-- behind the three first statements -/
def Mid1 (h₀ : Heap) (L : Nat) (s₁ : Shared) (s' : Shared) : Prop :=
  ∃ (h : Heap) (tk : Nat) (m₀ : Str → Option Value) (Dv : Nat) (a : Int) (ta : Tok) (b : Int) (tb : Tok) (oc o2 : Obj) (kd : PySem.Str) (tkd : Tok) (wd : Int) (twd : Tok) (hi : Int) (thi : Tok) (sd : Int) (tsd : Tok) (v2 : Option Value),
    s' = { s₁ with heap := h, toks := tk } ∧ Fr h₀ L h (maps1 kd tkd wd twd hi thi sd tsd m₀) ∧ News h₀ L h [(Dv, vaneOf a ta b tb 0), (L + 1 + 1, o2), (L + 1, oc)] ∧
      o2.data = .cell v2 ∧ oc.data = .cell (some (.ref Dv)) ∧ L + 1 < Dv ∧ L + 1 + 1 < Dv ∧ VaneOk a b ∧ kd ∈ kinds
theorem mid1 {h₀ h : Heap} {L Dv : Nat} {s₁ : Shared} {tk : Nat} {m₀ : Str → Option Value} {news : List (Addr × Obj)} {a b : Int} {ta tb : Tok} {oc o2 : Obj} {kd : PySem.Str} {tkd : Tok} {wd : Int} {twd : Tok} {hi : Int} {thi : Tok} {sd : Int} {tsd : Tok} {v2 : Option Value}
    (F : Fr h₀ L h (maps1 kd tkd wd twd hi thi sd tsd m₀)) (N : News h₀ L h news) (m3 : (L + 1, oc) ∈ news) (hd : oc.data = .cell (some (.ref Dv))) (m1 : (Dv, vaneOf a ta b tb 0) ∈ news) (m2 : (L + 1 + 1, o2) ∈ news) (hd2 : o2.data = .cell v2)
    (l1 : L + 1 < Dv) (l2 : L + 1 + 1 < Dv) (hv : VaneOk a b) (hk : kd ∈ kinds) : StageEnd (Mid1 h₀ L s₁) .next { s₁ with heap := h, toks := tk } := by
  refine ⟨rfl, h, tk, m₀, Dv, a, ta, b, tb, oc, o2, kd, tkd, wd, twd, hi, thi, sd, tsd, v2, rfl, F, ?_, hd2, hd, l1, l2, hv, hk⟩
  intro p hp
  simp only [List.mem_cons, List.not_mem_nil, or_false] at hp
  rcases hp with rfl | rfl | rfl
  · exact N _ m1
  · exact N _ m2
  · exact N _ m3
section
variable {prog : Program} {w : World} {K : Frag} {view : Program} {lo : List Str} {recs : WRecords} {xl : (Str → Option Value) → Heap → Prop} {s₀ : Shared} {mg mb : Str → Option Value} {f : Addr} {h : Heap} {P : Prop}
theorem comp_all (_G : Ground view lo recs xl w s₀ mg mb h) (_X : K.In h) (c : ∀ mean mg mb, CompTells' prog w K view (looseW view lo) mean mg mb f) (k : CompAll prog w K view (looseW view lo) f → P) : P := k c
theorem frame_all (_G : Ground view lo recs xl w s₀ mg mb h) (_X : K.In h) (c : ∀ mean mg mb, FrameTells prog w K view (looseW view lo) mean mg mb f) (k : FrameAll prog w K view (looseW view lo) f → P) : P := k c
theorem told_all (_G : Ground view lo recs xl w s₀ mg mb h) (_X : K.In h) (c : ∀ mean mg mb, ToldTells prog w K view (looseW view lo) mean mg mb f) (k : ToldAll prog w K view (looseW view lo) f → P) : P := k c
theorem turned_all (_G : Ground view lo recs xl w s₀ mg mb h) (_X : K.In h) (c : ∀ mean mg mb, TurnedTells prog w K view (looseW view lo) mean mg mb f) (k : TurnedAll prog w K view (looseW view lo) f → P) : P := k c
end
end Mine
end
section
open PySem PySem.W PySem.Spec PySem.Calls PyProof.Rows PyProof.Rows.LCg
namespace Mine
abbrev tup4 (a b c d : Value) (n : Nat) : Obj := { cls := .type "tuple", data := .seq #[a, b, c, d] n }
section
variable {prog : Program} {w : World} {A : Around} {h₀ : Heap} {L : Addr} {m : Str → Option Value} {env : Env} {elt : PySem.Expr} {x : Str} {scope : Scope} {cl : List (Str × Addr)} {s : Shared}
/-- what a turn of the rows leaves -/
def RowEnd (h₀ : Heap) (L : Addr) (m : Str → Option Value) (s : Shared) (top : List (Addr × Obj)) (Dv : Addr) (rest : List (Addr × Obj)) (y : Value) (s' : Shared) : Prop :=
  ∃ (h' : Heap) (tk' : Nat) (a : Int) (ta : Tok) (b : Int) (tb : Tok) (T : Addr) (i : Int) (ti : Tok) (ac : Int) (tc : Tok) (d : Int) (td : Tok) (q : Int) (tq : Tok), s' = { s with heap := h', toks := tk' } ∧ y = .ref T ∧ Fr h₀ L h' m ∧
    News h₀ L h' ((T, tup4 (.int i ti) (.int ac tc) (.int d td) (.int q tq) 0) :: (top ++ (Dv, vaneOf a ta b tb 0) :: rest)) ∧ VaneOk a b ∧ AllLt T (top ++ (Dv, vaneOf a ta b tb 0) :: rest)
theorem RowEnd.intro {top rest : List (Addr × Obj)} {Dv : Addr} {h' : Heap} {tk' : Nat} {a b : Int} {ta tb : Tok} {T : Addr} {i ac d q : Int} {ti tc td tq : Tok} (F : Fr h₀ L h' m)
    (N : News h₀ L h' ((T, tup4 (.int i ti) (.int ac tc) (.int d td) (.int q tq) 0) :: (top ++ (Dv, vaneOf a ta b tb 0) :: rest))) (hv : VaneOk a b) (l : AllLt T (top ++ (Dv, vaneOf a ta b tb 0) :: rest)) :
    RowEnd h₀ L m s top Dv rest (.ref T) { s with heap := h', toks := tk' } := ⟨h', tk', a, ta, b, tb, T, i, ti, ac, tc, d, td, q, tq, rfl, rfl, F, N, hv, l⟩
theorem rows_rest {c c2 Dv : Addr} {oc o2 : Obj} {n : Nat} {a b : Int} {ta tb : Tok} {Fin : List Value → List (Addr × Obj) → Prop} (hv : VaneOk a b) (l1 : @LT.lt Nat _ c Dv) (l2 : @LT.lt Nat _ c2 Dv)
    (turn : ∀ (a : Int) (ta : Tok) (b : Int) (tb : Tok) (rest : List (Addr × Obj)) (k : Int) (tkk : Tok) (I : Addr) (oI : Obj) (C : Addr) (oC : Obj) (D : Addr) (ys : List Value) (m₂ : Str → Option Value) (h : Heap) (tk : Nat) (E' : Value → Shared → Prop),
      VaneOk a b → (∀ p ∈ rest, p.1 ≠ Dv) → @Ne Nat I Dv → @Ne Nat C Dv → @Ne Nat D Dv → NsObj oC m₂ → m₂ x = some (.int k tkk) → Fr h₀ L h m → News h₀ L h ((I, oI) :: (C, oC) :: (D, lst ys) :: (Dv, vaneOf a ta b tb 0) :: (c2, o2) :: (c, oc) :: rest) →
      wpAny (model prog w) A (eval elt (compEnvC scope cl C env)) (RowEnd h₀ L m { s with heap := h, toks := tk } [(I, oI), (C, oC), (D, lst ys)] Dv ((c2, o2) :: (c, oc) :: rest)) E' { s with heap := h, toks := tk })
    (fin : ∀ (ys : List Value) (a : Int) (ta : Tok) (b : Int) (tb : Tok) (rest : List (Addr × Obj)) (rs : List R4), VaneOk a b → (∀ p ∈ rest, @LT.lt Nat _ Dv p.1) → All2 (RowIn rest) ys rs → rs.length = n → Fin ys ((Dv, vaneOf a ta b tb 0) :: (c2, o2) :: (c, oc) :: rest)) :
    CompRest prog w A h₀ L m env elt x scope cl s (fun _ => True) (fun i v => ∃ t, v = .int (0 + (i : Int)) t) Fin n 0 [] [(Dv, vaneOf a ta b tb 0), (c2, o2), (c, oc)] := by
  refine rest_run (n := n) (J := fun i ys news => ∃ a ta b tb rest, ∃ rs : List R4, news = (Dv, vaneOf a ta b tb 0) :: (c2, o2) :: (c, oc) :: rest ∧ VaneOk a b ∧ (∀ p ∈ rest, @LT.lt Nat _ Dv p.1) ∧ All2 (RowIn rest) ys rs ∧ rs.length = i) ?_ ?_ _ _ _ _ (Nat.zero_add _)
    ⟨a, ta, b, tb, [], [], rfl, hv, (fun _ h => nomatch h), .nil, rfl⟩
  · rintro i ys news ⟨a, ta, b, tb, rest, rs, rfl, hv, hab, hy, hl⟩ v I oI C oC D m₂ h tk E' ⟨tkk, rfl⟩ hC hx F N off ne
    have o := off.mem
    have oD := o _ (.head _)
    refine wpAny_mono (turn a ta b tb rest _ tkk I oI C oC D ys m₂ h tk E' hv (fun p hp => Nat.ne_of_gt (hab p hp)) oD.1.symm oD.2.1.symm oD.2.2.symm hC hx F N) (fun y s' q => ?_) fun _ _ q => q
    obtain ⟨h', tk', a', ta', b', tb', T, ri, ti, ra, tc, rd, td, rq, tq, rfl, rfl, F', N', hv', l⟩ := q
    have lt := lt_all l
    refine CompEnd.intro F' N' ((Dv, vaneOf a' ta' b' tb' 0) :: (c2, o2) :: (c, oc) :: (T, tup4 (.int ri ti) (.int ra tc) (.int rd td) (.int rq tq) 0) :: rest) (fun p hp => ?_) (Off3.of fun p hp => ?_) trivial
      ⟨a', ta', b', tb', _ :: rest, rs ++ [⟨ri, ra, rd, rq⟩], rfl, hv', ?_, ?_, by rw [List.length_append, hl]; rfl⟩
    · simp only [List.mem_cons, List.cons_append, List.nil_append] at hp ⊢
      rcases hp with h | h | h | h | h | h | h | h <;> simp [h]
    · simp only [List.mem_cons] at hp
      rcases hp with rfl | rfl | rfl | rfl | hp
      · exact oD
      · exact o _ (.tail _ (.head _))
      · exact o _ (.tail _ (.tail _ (.head _)))
      · exact ⟨Nat.ne_of_gt (lt (I, oI) (by simp)), Nat.ne_of_gt (lt (C, oC) (by simp)), Nat.ne_of_gt (lt (D, lst ys) (by simp))⟩
      · exact o _ (.tail _ (.tail _ (.tail _ hp)))
    · intro p hp
      rcases List.mem_cons.mp hp with rfl | hp
      · exact lt (Dv, vaneOf a' ta' b' tb' 0) (by simp)
      · exact hab p hp
    · exact (hy.mono fun _ _ z => z.mono fun p hp => .tail _ hp).snoc (row_in (.head _))
  · rintro ys news ⟨a, ta, b, tb, rest, rs, rfl, hv, hab, hy, hl⟩
    exact fin ys a ta b tb rest rs hv hab hy hl
theorem rows_src {c c2 Dv : Addr} {oc o2 : Obj} {k : Int} {a b : Int} {ta tb t u v : Tok} {r : Addr} {Fin : Shared → List Value → List (Addr × Obj) → Prop} {news : List (Addr × Obj)} (hh : A.handled = none) (F : Fr h₀ L s.heap m) (N : News h₀ L s.heap news)
    (_hoc : oc.data = .cell (some (.ref Dv))) (m1 : (Dv, vaneOf a ta b tb 0) ∈ news) (m2 : (c2, o2) ∈ news) (m3 : (c, oc) ∈ news) (hr : IsRange s.heap r 0 (1 + k) 1 t u v) (hd : Drawn k 4) (hv : VaneOk a b) (l1 : @LT.lt Nat _ c Dv) (l2 : @LT.lt Nat _ c2 Dv)
    (turn : ∀ (a : Int) (ta : Tok) (b : Int) (tb : Tok) (rest : List (Addr × Obj)) (k : Int) (tkk : Tok) (I : Addr) (oI : Obj) (C : Addr) (oC : Obj) (D : Addr) (ys : List Value) (m₂ : Str → Option Value) (h : Heap) (tk : Nat) (E' : Value → Shared → Prop),
      VaneOk a b → (∀ p ∈ rest, p.1 ≠ Dv) → @Ne Nat I Dv → @Ne Nat C Dv → @Ne Nat D Dv → NsObj oC m₂ → m₂ x = some (.int k tkk) → Fr h₀ L h m → News h₀ L h ((I, oI) :: (C, oC) :: (D, lst ys) :: (Dv, vaneOf a ta b tb 0) :: (c2, o2) :: (c, oc) :: rest) →
      wpAny (model prog w) A (eval elt (compEnvC scope cl C env)) (RowEnd h₀ L m { s with heap := h, toks := tk } [(I, oI), (C, oC), (D, lst ys)] Dv ((c2, o2) :: (c, oc) :: rest)) E' { s with heap := h, toks := tk })
    (fin : ∀ (g : Heap) (ys : List Value) (a : Int) (ta : Tok) (b : Int) (tb : Tok) (rest : List (Addr × Obj)) (rs : List R4), VaneOk a b → (∀ p ∈ rest, @LT.lt Nat _ Dv p.1) → All2 (RowIn rest) ys rs → rs.length ≤ 4 → Fin { s with heap := g } ys ((Dv, vaneOf a ta b tb 0) :: (c2, o2) :: (c, oc) :: rest)) :
    CompSrc prog w A h₀ L m env elt x scope cl Fin (.ref r) s := by
  have z := range_facts hd
  refine CompSrc.range (news := [(Dv, vaneOf a ta b tb 0), (c2, o2), (c, oc)]) hh F (fun p hp => ?_) hr z.1 z.2.1 z.2.2.1 fun g => rows_rest hv l1 l2 turn fun ys a ta b tb rest rs h1 h2 h3 h4 => fin g ys a ta b tb rest rs h1 h2 h3 (h4 ▸ z.2.2.2)
  simp only [List.mem_cons, List.not_mem_nil, or_false] at hp
  rcases hp with rfl | rfl | rfl
  · exact N _ m1
  · exact N _ m2
  · exact N _ m3
end
/-- behind the rows -/
def Mid2 (h₀ : Heap) (L : Nat) (s₁ : Shared) (s' : Shared) : Prop :=
  ∃ (h : Heap) (tk : Nat) (m₀ : Str → Option Value) (Dv : Nat) (a : Int) (ta : Tok) (b : Int) (tb : Tok) (oc o2 : Obj) (kd : PySem.Str) (tkd : Tok) (wd : Int) (twd : Tok) (hi : Int) (thi : Tok) (sd : Int) (tsd : Tok) (R : Addr) (ys : List Value) (mm : Nat) (rs : List R4) (rest : List (Addr × Obj)) (v2 : Option Value),
    s' = { s₁ with heap := h, toks := tk } ∧ Fr h₀ L h (fun y => if y = Str.ofString "rows" then some (.ref R) else maps1 kd tkd wd twd hi thi sd tsd m₀ y) ∧ News h₀ L h ((Dv, vaneOf a ta b tb 0) :: (L + 1 + 1, o2) :: rest) ∧
      o2.data = .cell v2 ∧ oc.data = .cell (some (.ref Dv)) ∧ L + 1 < Dv ∧ L + 1 + 1 < Dv ∧ VaneOk a b ∧ kd ∈ kinds ∧ (∀ p ∈ rest, p.1 ≠ Dv) ∧ (∀ p ∈ rest, p.1 ≠ L + 1 + 1) ∧ (L + 1, oc) ∈ rest ∧ (R, listOf ys.toArray mm) ∈ rest ∧ All2 (RowIn rest) ys rs ∧ rs.length ≤ 4
theorem mid2 {h₀ h : Heap} {L Dv : Nat} {s₁ : Shared} {tk : Nat} {m₀ : Str → Option Value} {a b : Int} {ta tb : Tok} {oc o2 : Obj} {kd : PySem.Str} {tkd : Tok} {wd : Int} {twd : Tok} {hi : Int} {thi : Tok} {sd : Int} {tsd : Tok} {R : Addr} {ys : List Value} {rs : List R4} {rest : List (Addr × Obj)} {v2 : Option Value}
    (F : Fr h₀ L h (fun y => if y = Str.ofString "rows" then some (.ref R) else maps1 kd tkd wd twd hi thi sd tsd m₀ y)) (N : News h₀ L h ((R, lst ys) :: (Dv, vaneOf a ta b tb 0) :: (L + 1 + 1, o2) :: (L + 1, oc) :: rest)) (hd2 : o2.data = .cell v2) (hd : oc.data = .cell (some (.ref Dv)))
    (l1 : L + 1 < Dv) (l2 : L + 1 + 1 < Dv) (hv : VaneOk a b) (hk : kd ∈ kinds) (o1 : Off1 R ((Dv, vaneOf a ta b tb 0) :: (L + 1 + 1, o2) :: (L + 1, oc) :: rest)) (hab : ∀ p ∈ rest, @LT.lt Nat _ Dv p.1) (hy : All2 (RowIn rest) ys rs) (hn : rs.length ≤ 4) :
    StageEnd (Mid2 h₀ L s₁) .next { s₁ with heap := h, toks := tk } := by
  have o := off1_all o1
  refine ⟨rfl, h, tk, m₀, Dv, a, ta, b, tb, oc, o2, kd, tkd, wd, twd, hi, thi, sd, tsd, R, ys, ys.length, rs, (R, lst ys) :: (L + 1, oc) :: rest, v2, rfl, F, ?_, hd2, hd, l1, l2, hv, hk, ?_, ?_, .tail _ (.head _), .head _, hy.mono fun _ _ z => z.mono fun p hp => .tail _ (.tail _ hp), hn⟩
  · intro p hp
    refine N p ?_
    simp only [List.mem_cons] at hp ⊢
    rcases hp with h | h | h | h | h <;> simp [h]
  · intro p hp
    simp only [List.mem_cons] at hp
    rcases hp with rfl | rfl | hp
    · exact (o (Dv, vaneOf a ta b tb 0) (by simp)).symm
    · exact Nat.ne_of_lt l1
    · exact Nat.ne_of_gt (hab p hp)
  · intro p hp
    simp only [List.mem_cons] at hp
    rcases hp with rfl | rfl | hp
    · exact (o (L + 1 + 1, o2) (by simp)).symm
    · exact Nat.ne_of_lt (Nat.lt_succ_self _)
    · exact Nat.ne_of_gt (Nat.lt_trans l2 (hab p hp))
end Mine
end
section
open PySem PySem.W PySem.Spec PySem.Calls PyProof.Rows PyProof.Rows.LCg
namespace Mine
theorem row_out {l : List (Addr × Obj)} {v : Value} {r : R4} (h : RowIn l v r) : ∃ T ti ta td tq n, v = .ref T ∧ (T, tup4 (.int r.i ti) (.int r.a ta) (.int r.d td) (.int r.q tq) n) ∈ l := by
  obtain ⟨i, a, d, q⟩ := r
  unfold RowIn rowDat at h
  cases h with
  | tuple hm hd =>
    cases hd with
    | cons d1 hd => cases hd with
      | cons d2 hd => cases hd with
        | cons d3 hd => cases hd with
          | cons d4 hd =>
            cases hd
            cases d1; cases d2; cases d3; cases d4
            exact ⟨_, _, _, _, _, _, rfl, hm⟩
section
variable {prog : Program} {w : World} {A : Around} {h₀ : Heap} {L : Addr} {m : Str → Option Value} {env : Env} {elt : PySem.Expr} {x : Str} {scope : Scope} {cl : List (Str × Addr)} {s : Shared} {E : Value → Shared → Prop}
/-- an item of a row's tuple -/
theorem row_get {value slice : PySem.Expr} {T : Addr} {news : List (Addr × Obj)} {v0 v1 v2 v3 v : Value} {n : Nat} {k : Int} {u : Tok} {j : Nat} {Q : Value → Shared → Prop} (N : News h₀ L s.heap news) (hm : (T, tup4 v0 v1 v2 v3 n) ∈ news) (hlo : -(2 ^ 63) ≤ k) (hhi : k < 2 ^ 63)
    (hj : seqIndex? k 4 = some j) (hx : [v0, v1, v2, v3][j]? = some v) (h : Q v s)
    (hs : subscripted slice false (.ref T) (.int k u) = operate [.ref T, .int k u] (getItem (.ref T) (.int k u)) := by with_unfolding_all rfl) (hg : ∀ r, letTemporaryGo value (.ref T) r = pure () := by intro _; with_unfolding_all rfl) :
    wpAny (model prog w) A (subscriptTail value slice (.ref T) (.int k u)) Q E s :=
  item_tupleL (l := [v0, v1, v2, v3]) ⟨_, (N _ hm).1, rfl, n, rfl⟩ hlo hhi hj hx h hs hg
theorem comp_turn {led : List (Addr × Obj)} {h' : Heap} {tk' : Nat} {X D : Addr} {k1 k2 k3 k4 ti ta td tq : Tok} {i a d q : Int} (F : Fr h₀ L h' m) (N : News h₀ L h' ((X, instObj 45 D) :: (D, compD w k1 k2 k3 k4 (.int i ti) (.int a ta) (.int d td) (.int q tq)) :: led))
    (l1 : AllLt D led) (l2 : @LT.lt Nat _ D X) : TurnEnd h₀ L m s led (fun new y => CompIn w new y ⟨i, a, d, q⟩) (.ref X) { s with heap := h', toks := tk' } := by
  refine TurnEnd.intro [(X, instObj 45 D), (D, _)] F N ?_ ⟨X, D, k1, k2, k3, k4, ti, ta, td, tq, rfl, .head _, .tail _ (.head _)⟩
  have lt := lt_all l1
  intro p hp y hy
  simp only [List.mem_cons, List.not_mem_nil, or_false] at hp
  rcases hp with rfl | rfl
  · exact Nat.lt_trans (lt y hy) l2
  · exact lt y hy
/-- over the rows, each turn a component -/
theorem comps_src {ax : Addr} {mm : Nat} {ys : List Value} {rs : List R4} {base news : List (Addr × Obj)} {Fin : Shared → List Value → List (Addr × Obj) → Prop} (hh : A.handled = none) (F : Fr h₀ L s.heap m) (N : News h₀ L s.heap news)
    (src : All2 (RowIn base) ys rs) (hn : rs.length ≤ 4) (hm : (ax, listOf ys.toArray mm) ∈ news) (hb : ∀ p ∈ base, p ∈ news)
    (turn : ∀ T i a d q ti ta td tq n news' I oI C oC D ys' m₂ h tk (E' : Value → Shared → Prop), (T, tup4 (.int i ti) (.int a ta) (.int d td) (.int q tq) n) ∈ news' → NsObj oC m₂ → m₂ x = some (.ref T) →
      Fr h₀ L h m → News h₀ L h ((I, oI) :: (C, oC) :: (D, lst ys') :: news') →
      wpAny (model prog w) A (eval elt (compEnvC scope cl C env)) (TurnEnd h₀ L m { s with heap := h, toks := tk } ((I, oI) :: (C, oC) :: (D, lst ys') :: news') (fun new y => CompIn w new y ⟨i, a, d, q⟩)) E' { s with heap := h, toks := tk })
    (fin : ∀ g xs add, Above add news → All2 (CompIn w add) xs rs → Fin { s with heap := g } xs (add ++ news)) :
    CompSrc prog w A h₀ L m env elt x scope cl Fin (.ref ax) s := by
  have hsz : ys.toArray.size ≤ sizeLine := by
    have e := src.length
    rw [List.size_toArray, sizeLine_eq]
    omega
  refine CompSrc.ledger hh F N hm hsz fun g => ?_
  refine map_rest (RS := RowIn) (RT := CompIn w) (f := id) (base := base) (keep := []) RowIn.mono CompIn.mono srcAt_mono src hb (Or.inr ⟨_, hm, rfl, _, rfl⟩) ?_ (fun xs add ab h => fin g xs add ab (by simpa using h))
  rintro v ⟨i, a, d, q⟩ news' I oI C oC D ys' m₂ h tk E' hr hs hC hx F N
  obtain ⟨T, ti, ta, td, tq, n, rfl, hT⟩ := row_out hr
  refine wpAny_mono (turn T i a d q ti ta td tq n news' I oI C oC D ys' m₂ h tk E' (hs _ (hb _ hT)) hC hx F N) (fun y s' z => ?_) fun _ _ z => z
  obtain ⟨h', tk', new, e, F', N', a', r'⟩ := z
  exact ⟨h', tk', new, e, F', N', a', by simpa using r'⟩
end
abbrev maps3 (fr R : Addr) (kd : PySem.Str) (tkd : Tok) (wd : Int) (twd : Tok) (hi : Int) (thi : Tok) (sd : Int) (tsd : Tok) (m₀ : Str → Option Value) : Str → Option Value :=
  fun y => if y = Str.ofString "frame" then some (.ref fr) else if y = Str.ofString "rows" then some (.ref R) else maps1 kd tkd wd twd hi thi sd tsd m₀ y
/-- behind the frame -/
def Mid3 (w : World) (h₀ : Heap) (L : Nat) (s₁ : Shared) (s' : Shared) : Prop :=
  ∃ (h : Heap) (tk : Nat) (m₀ : Str → Option Value) (Dv : Nat) (a : Int) (ta : Tok) (b : Int) (tb : Tok) (oc o2 : Obj) (kd : PySem.Str) (tkd : Tok) (wd : Int) (twd : Tok) (hi : Int) (thi : Tok) (sd : Int) (tsd : Tok) (R : Addr) (ys : List Value) (mm : Nat) (rs : List R4) (rest : List (Addr × Obj))
    (fr df lc : Addr) (k1 k2 k3 k4 k5 k6 tp : Tok) (pr : Int) (xs : List Value) (nn : Nat) (v2 : Option Value),
    s' = { s₁ with heap := h, toks := tk } ∧ Fr h₀ L h (maps3 fr R kd tkd wd twd hi thi sd tsd m₀) ∧ News h₀ L h ((Dv, vaneOf a ta b tb 0) :: (L + 1 + 1, o2) :: rest) ∧
      o2.data = .cell v2 ∧ oc.data = .cell (some (.ref Dv)) ∧ L + 1 < Dv ∧ L + 1 + 1 < Dv ∧ VaneOk a b ∧ kd ∈ kinds ∧ (∀ p ∈ rest, p.1 ≠ Dv) ∧ (∀ p ∈ rest, p.1 ≠ L + 1 + 1) ∧ (L + 1, oc) ∈ rest ∧ (R, listOf ys.toArray mm) ∈ rest ∧ All2 (RowIn rest) ys rs ∧ rs.length ≤ 4 ∧
      (fr, instObj 111 df) ∈ rest ∧ (df, frameD w k1 k2 k3 k4 k5 k6 (.str kd tkd) (.int pr tp) (.int hi thi) (.int wd twd) (.ref lc) (.int sd tsd)) ∈ rest ∧ (lc, listOf xs.toArray nn) ∈ rest ∧ All2 (CompIn w rest) xs rs
theorem mid3 {w : World} {h₀ h : Heap} {L Dv : Nat} {s₁ : Shared} {tk : Nat} {m₀ : Str → Option Value} {a b : Int} {ta tb : Tok} {oc o2 : Obj} {kd : PySem.Str} {tkd : Tok} {wd : Int} {twd : Tok} {hi : Int} {thi : Tok} {sd : Int} {tsd : Tok} {R : Addr} {ys : List Value} {mm : Nat} {rs : List R4} {rest add : List (Addr × Obj)}
    {fr df lc : Addr} {k1 k2 k3 k4 k5 k6 tp : Tok} {pr : Int} {xs : List Value} {o2a : Obj} {ga gb : Int} {gta gtb : Tok} {v2 : Option Value}
    (F : Fr h₀ L h (maps3 fr R kd tkd wd twd hi thi sd tsd m₀)) (N : News h₀ L h ((fr, instObj 111 df) :: (df, frameD w k1 k2 k3 k4 k5 k6 (.str kd tkd) (.int pr tp) (.int hi thi) (.int wd twd) (.ref lc) (.int sd tsd)) :: (lc, lst xs) :: (add ++ (Dv, vaneOf a ta b tb 0) :: (L + 1 + 1, o2) :: rest)))
    (hd2 : o2.data = .cell v2) (hd : oc.data = .cell (some (.ref Dv))) (l1 : L + 1 < Dv) (l2 : L + 1 + 1 < Dv) (hv : VaneOk a b) (hk : kd ∈ kinds) (hn1 : ∀ p ∈ rest, p.1 ≠ Dv) (hn2 : ∀ p ∈ rest, p.1 ≠ L + 1 + 1) (hc : (L + 1, oc) ∈ rest) (hR : (R, listOf ys.toArray mm) ∈ rest) (hy : All2 (RowIn rest) ys rs) (hn : rs.length ≤ 4)
    (ld : AllLt df ((lc, lst xs) :: (add ++ (Dv, vaneOf a ta b tb 0) :: (L + 1 + 1, o2) :: rest))) (lf : @LT.lt Nat _ df fr) (o1 : Off1 lc (add ++ (Dv, vaneOf a ta b tb 0) :: (L + 1 + 1, o2) :: rest)) (ab : Above add ((Dv, vaneOf ga gta gb gtb 0) :: (L + 1 + 1, o2a) :: rest)) (hx : All2 (CompIn w add) xs rs) :
    StageEnd (Mid3 w h₀ L s₁) .next { s₁ with heap := h, toks := tk } := by
  have o := off1_all o1
  have lt := lt_all ld
  have key : ∀ (z : Addr) (oz oz' : Obj), (z, oz) ∈ (add ++ (Dv, vaneOf a ta b tb 0) :: (L + 1 + 1, o2) :: rest) → (z, oz') ∈ ((Dv, vaneOf ga gta gb gtb 0) :: (L + 1 + 1, o2a) :: rest) → (∀ p ∈ rest, p.1 ≠ z) →
      ∀ p ∈ (fr, instObj 111 df) :: (df, frameD w k1 k2 k3 k4 k5 k6 (.str kd tkd) (.int pr tp) (.int hi thi) (.int wd twd) (.ref lc) (.int sd tsd)) :: (lc, lst xs) :: (add ++ rest), p.1 ≠ z := by
    intro z oz oz' hz hz' hr p hp
    have zlt := lt _ (.tail _ hz)
    simp only [List.mem_cons, List.mem_append] at hp
    rcases hp with rfl | rfl | rfl | hp | hp
    · exact Nat.ne_of_gt (Nat.lt_trans zlt lf)
    · exact Nat.ne_of_gt zlt
    · exact (o _ hz).symm
    · exact Nat.ne_of_gt (ab p hp _ hz')
    · exact hr p hp
  have sub : ∀ p ∈ rest, p ∈ (fr, instObj 111 df) :: (df, frameD w k1 k2 k3 k4 k5 k6 (.str kd tkd) (.int pr tp) (.int hi thi) (.int wd twd) (.ref lc) (.int sd tsd)) :: (lc, lst xs) :: (add ++ rest) := fun p hp => by simp [hp]
  have suba : ∀ p ∈ add, p ∈ (fr, instObj 111 df) :: (df, frameD w k1 k2 k3 k4 k5 k6 (.str kd tkd) (.int pr tp) (.int hi thi) (.int wd twd) (.ref lc) (.int sd tsd)) :: (lc, lst xs) :: (add ++ rest) := fun p hp => by simp [hp]
  refine ⟨rfl, h, tk, m₀, Dv, a, ta, b, tb, oc, o2, kd, tkd, wd, twd, hi, thi, sd, tsd, R, ys, mm, rs, _, fr, df, lc, k1, k2, k3, k4, k5, k6, tp, pr, xs, xs.length, v2, rfl, F, ?_, hd2, hd, l1, l2, hv, hk,
    key Dv _ _ (List.mem_append.mpr (.inr (.head _))) (.head _) hn1, key (L + 1 + 1) _ _ (List.mem_append.mpr (.inr (.tail _ (.head _)))) (.tail _ (.head _)) hn2, sub _ hc, sub _ hR, hy.mono fun _ _ z => z.mono sub, hn, .head _, .tail _ (.head _), .tail _ (.tail _ (.head _)), hx.mono fun _ _ z => z.mono suba⟩
  intro p hp
  refine N p ?_
  simp only [List.mem_cons, List.mem_append] at hp ⊢
  rcases hp with h | h | h | h | h | h | h <;> simp [h]
end Mine
end
section
open PySem PySem.W PySem.Spec PySem.Calls PyProof.Rows PyProof.Rows.LCg
namespace Mine
section
variable {prog : Program} {w : World} {K : Frag} {p : Program} {loose : List Str} {mean : ExcName → Option Value} {mg mb : Str → Option Value} {f : Addr}
  {dp un : Nat} {gd : Option (List Code)} {cn : Str} {cs : Scope} {x : Addr} {ccd : Value} {cl : List (Str × Addr)} {outer : List Env} {A₀ : Around} {base h₀ : Heap} {L : Addr} {m : Str → Option Value} {news : List (Addr × Obj)} {s : Shared} {Q E : Value → Shared → Prop}
theorem told_use {fr df c : Addr} {k1 k2 k3 k4 k5 k6 tk tp th tw tn : Tok} {kd : Str} {pr hi wd n : Int} {nn : Nat} {xs : List Value} {rs : List R4} {b0 : List (Addr × Obj)} (C : ToldAll prog w K p loose f) (B : Below A₀ base outer h₀) (F : Fr h₀ L s.heap m) (X : K.In h₀) (N : News h₀ L s.heap news) (T : Top p loose mean mg mb h₀) (hk : cs.kind = .function)
    (h1 : (fr, instObj 111 df) ∈ news) (h2 : (df, frameD w k1 k2 k3 k4 k5 k6 (.str kd tk) (.int pr tp) (.int hi th) (.int wd tw) (.ref c) (.int n tn)) ∈ news) (h3 : (c, listOf xs.toArray nn) ∈ news) (h4 : All2 (CompIn w b0) xs rs) (hb : ∀ p ∈ b0, p ∈ news) (hn : rs.length ≤ 4)
    (hd : dp + 2 < recursionLimit) (hu : un + 8 < cLine)
    (ret : ∀ (T l : Addr) ys mm add h' tk', (∀ q ∈ (l, listOf ys.toArray mm) :: (add ++ news), @LT.lt Nat _ q.1 T) → (∀ q ∈ add ++ news, q.1 ≠ l) → Above add news → All2 (RowIn add) ys rs → Fr h₀ L h' m →
      News h₀ L h' ((T, tup6 (.str kd tk) (.int pr tp) (.int n tn) (.int wd tw) (.int hi th) (.ref l) 0) :: (l, listOf ys.toArray mm) :: (add ++ news)) → Q (.ref T) { s with heap := h', toks := tk' }) :
    wpAny (model prog w) (ktrTop dp un gd cn cs L x ccd cl outer) (call (.ref f) [.ref fr]) Q E s := by
  have q := C mean mg mb
  unfold ToldTells at q
  have hsz : xs.toArray.size ≤ sizeLine := by
    have e := h4.length
    rw [List.size_toArray, sizeLine_eq]
    omega
  exact q dp un gd cn cs x ccd cl outer A₀ base h₀ L m news s fr df c k1 k2 k3 k4 k5 k6 tk tp th tw tn kd pr hi wd n nn xs rs Q E B F X N T hk h1 h2 h3 (h4.mono fun _ _ z => z.mono hb) hsz hd hu ret
theorem turned_use {fr df c : Addr} {k1 k2 k3 k4 k5 k6 tk tp th tw tn tg : Tok} {kd g : Str} {pr hi wd n : Int} {nn : Nat} {xs : List Value} {rs : List R4} {b : Bool} {b0 : List (Addr × Obj)} (C : TurnedAll prog w K p loose f) (B : Below A₀ base outer h₀) (F : Fr h₀ L s.heap m) (X : K.In h₀) (N : News h₀ L s.heap news) (T : Top p loose mean mg mb h₀) (hk : cs.kind = .function)
    (h1 : (fr, instObj 111 df) ∈ news) (h2 : (df, frameD w k1 k2 k3 k4 k5 k6 (.str kd tk) (.int pr tp) (.int hi th) (.int wd tw) (.ref c) (.int n tn)) ∈ news) (h3 : (c, listOf xs.toArray nn) ∈ news) (h4 : All2 (CompIn w b0) xs rs) (hb : ∀ p ∈ b0, p ∈ news) (hn : rs.length ≤ 4) (hg : up g = b)
    (hh : A₀.handled = none) (hd : dp + 4 < recursionLimit) (hu : un + 24 < cLine)
    (ret : ∀ (X D : Addr) j1 j2 j3 j4 j5 j6 uh uw lst ys mm add h' tk', Above add news → All2 (CompIn w add) ys (rs.map (turnR b)) → Fr h₀ L h' m →
      News h₀ L h' ((X, instObj 111 D) :: (D, frameD w j1 j2 j3 j4 j5 j6 (.str kd tk) (.int pr tp) (.int (if b then wd else hi) uh) (.int (if b then hi else wd) uw) (.ref lst) (.int n tn)) :: (lst, listOf ys.toArray mm) :: (add ++ news)) → Q (.ref X) { s with heap := h', toks := tk' }) :
    wpAny (model prog w) (ktrTop dp un gd cn cs L x ccd cl outer) (call (.ref f) [.ref fr, .str g tg]) Q E s := by
  have q := C mean mg mb
  unfold TurnedTells at q
  have hsz : xs.toArray.size ≤ sizeLine := by
    have e := h4.length
    rw [List.size_toArray, sizeLine_eq]
    omega
  exact q dp un gd cn cs x ccd cl outer A₀ base h₀ L m news s fr df c k1 k2 k3 k4 k5 k6 tk tp th tw tn tg kd g pr hi wd n nn xs rs b Q E B F X N T hk h1 h2 h3 (h4.mono fun _ _ z => z.mono hb) hsz hg hh hd hu ret
end
/-- what is known of the first frame, the rows and the first telling -/
structure Held (w : World) (rest : List (Addr × Obj)) (kd : PySem.Str) (tkd : Tok) (wd : Int) (twd : Tok) (hi : Int) (thi : Tok) (sd : Int) (tsd : Tok) (R : Addr) (ys : List Value) (mm : Nat) (rs : List R4) (fr df lc : Addr) (k1 k2 k3 k4 k5 k6 tp : Tok) (pr : Int) (xs : List Value) (nn : Nat) (T l : Addr) (zs : List Value) (ml : Nat) : Prop where
  hkd : kd ∈ kinds
  hrow : (R, listOf ys.toArray mm) ∈ rest
  hrows : All2 (RowIn rest) ys rs
  hfew : rs.length ≤ 4
  hfr : (fr, instObj 111 df) ∈ rest
  hdf : (df, frameD w k1 k2 k3 k4 k5 k6 (.str kd tkd) (.int pr tp) (.int hi thi) (.int wd twd) (.ref lc) (.int sd tsd)) ∈ rest
  hlc : (lc, listOf xs.toArray nn) ∈ rest
  hcomps : All2 (CompIn w rest) xs rs
  htold : (T, tup6 (.str kd tkd) (.int pr tp) (.int sd tsd) (.int wd twd) (.int hi thi) (.ref l) 0) ∈ rest
  hlist : (l, listOf zs.toArray ml) ∈ rest
  htolds : All2 (RowIn rest) zs rs
theorem Held.mono {w : World} {rest rest' : List (Addr × Obj)} {kd : PySem.Str} {tkd : Tok} {wd : Int} {twd : Tok} {hi : Int} {thi : Tok} {sd : Int} {tsd : Tok} {R : Addr} {ys : List Value} {mm : Nat} {rs : List R4} {fr df lc : Addr} {k1 k2 k3 k4 k5 k6 tp : Tok} {pr : Int} {xs : List Value} {nn : Nat} {T l : Addr} {zs : List Value} {ml : Nat}
    (hs : ∀ p ∈ rest, p ∈ rest') (H : Held w rest kd tkd wd twd hi thi sd tsd R ys mm rs fr df lc k1 k2 k3 k4 k5 k6 tp pr xs nn T l zs ml) : Held w rest' kd tkd wd twd hi thi sd tsd R ys mm rs fr df lc k1 k2 k3 k4 k5 k6 tp pr xs nn T l zs ml where
  hkd := H.hkd
  hrow := hs _ H.hrow
  hrows := H.hrows.mono fun _ _ z => z.mono hs
  hfew := H.hfew
  hfr := hs _ H.hfr
  hdf := hs _ H.hdf
  hlc := hs _ H.hlc
  hcomps := H.hcomps.mono fun _ _ z => z.mono hs
  htold := hs _ H.htold
  hlist := hs _ H.hlist
  htolds := H.htolds.mono fun _ _ z => z.mono hs
abbrev maps4 (g : PySem.Str) (tg : Tok) (T fr R : Addr) (kd : PySem.Str) (tkd : Tok) (wd : Int) (twd : Tok) (hi : Int) (thi : Tok) (sd : Int) (tsd : Tok) (m₀ : Str → Option Value) : Str → Option Value :=
  fun y => if y = Str.ofString "goal" then some (.str g tg) else if y = Str.ofString "before" then some (.ref T) else maps3 fr R kd tkd wd twd hi thi sd tsd m₀ y
/-- behind the first telling -/
def Mid4 (w : World) (h₀ : Heap) (L : Nat) (s₁ : Shared) (s' : Shared) : Prop :=
  ∃ (h : Heap) (tk : Nat) (m₀ : Str → Option Value) (o2 : Obj) (rest : List (Addr × Obj)) (g : PySem.Str) (tg : Tok) (kd : PySem.Str) (tkd : Tok) (wd : Int) (twd : Tok) (hi : Int) (thi : Tok) (sd : Int) (tsd : Tok) (R : Addr) (ys : List Value) (mm : Nat) (rs : List R4)
    (fr df lc : Addr) (k1 k2 k3 k4 k5 k6 tp : Tok) (pr : Int) (xs : List Value) (nn : Nat) (T l : Addr) (zs : List Value) (ml : Nat) (v2 : Option Value),
    s' = { s₁ with heap := h, toks := tk } ∧ Fr h₀ L h (maps4 g tg T fr R kd tkd wd twd hi thi sd tsd m₀) ∧ News h₀ L h ((L + 1 + 1, o2) :: rest) ∧ o2.data = .cell v2 ∧ (∀ p ∈ rest, p.1 ≠ L + 1 + 1) ∧ g ∈ goals ∧
      Held w rest kd tkd wd twd hi thi sd tsd R ys mm rs fr df lc k1 k2 k3 k4 k5 k6 tp pr xs nn T l zs ml
theorem mid4 {w : World} {h₀ h : Heap} {L Dv : Nat} {s₁ : Shared} {tk : Nat} {m₀ : Str → Option Value} {a b : Int} {ta tb : Tok} {o2 : Obj} {rest add : List (Addr × Obj)} {t : Addr × Obj} {g : PySem.Str} {tg : Tok} {kd : PySem.Str} {tkd : Tok} {wd : Int} {twd : Tok} {hi : Int} {thi : Tok} {sd : Int} {tsd : Tok} {R : Addr} {ys : List Value} {mm : Nat} {rs : List R4}
    {fr df lc : Addr} {k1 k2 k3 k4 k5 k6 tp : Tok} {pr : Int} {xs : List Value} {nn : Nat} {T l : Addr} {zs : List Value} {ml : Nat} {v2 : Option Value}
    (F : Fr h₀ L h (maps4 g tg T fr R kd tkd wd twd hi thi sd tsd m₀))
    (N : News h₀ L h (t :: (T, tup6 (.str kd tkd) (.int pr tp) (.int sd tsd) (.int wd twd) (.int hi thi) (.ref l) 0) :: (l, listOf zs.toArray ml) :: (add ++ (Dv, vaneOf a ta b tb 0) :: (L + 1 + 1, o2) :: rest)))
    (hT : ∀ q ∈ (l, listOf zs.toArray ml) :: (add ++ (Dv, vaneOf a ta b tb 0) :: (L + 1 + 1, o2) :: rest), @LT.lt Nat _ q.1 T) (hl : ∀ q ∈ add ++ (Dv, vaneOf a ta b tb 0) :: (L + 1 + 1, o2) :: rest, q.1 ≠ l) (ab : Above add ((Dv, vaneOf a ta b tb 0) :: (L + 1 + 1, o2) :: rest)) (hz : All2 (RowIn add) zs rs)
    (hd2 : o2.data = .cell v2) (hg : g ∈ goals) (hk : kd ∈ kinds) (hn2 : ∀ p ∈ rest, p.1 ≠ L + 1 + 1) (hR : (R, listOf ys.toArray mm) ∈ rest) (hy : All2 (RowIn rest) ys rs) (hn : rs.length ≤ 4)
    (hfr : (fr, instObj 111 df) ∈ rest) (hdf : (df, frameD w k1 k2 k3 k4 k5 k6 (.str kd tkd) (.int pr tp) (.int hi thi) (.int wd twd) (.ref lc) (.int sd tsd)) ∈ rest) (hlc : (lc, listOf xs.toArray nn) ∈ rest) (hx : All2 (CompIn w rest) xs rs) :
    StageEnd (Mid4 w h₀ L s₁) .next { s₁ with heap := h, toks := tk } := by
  have sub : ∀ p ∈ rest, p ∈ (T, tup6 (.str kd tkd) (.int pr tp) (.int sd tsd) (.int wd twd) (.int hi thi) (.ref l) 0) :: (l, listOf zs.toArray ml) :: (add ++ rest) := fun p hp => by simp [hp]
  have suba : ∀ p ∈ add, p ∈ (T, tup6 (.str kd tkd) (.int pr tp) (.int sd tsd) (.int wd twd) (.int hi thi) (.ref l) 0) :: (l, listOf zs.toArray ml) :: (add ++ rest) := fun p hp => by simp [hp]
  refine ⟨rfl, h, tk, m₀, o2, _, g, tg, kd, tkd, wd, twd, hi, thi, sd, tsd, R, ys, mm, rs, fr, df, lc, k1, k2, k3, k4, k5, k6, tp, pr, xs, nn, T, l, zs, ml, v2, rfl, F, ?_, hd2, ?_, hg,
    ⟨hk, sub _ hR, hy.mono fun _ _ z => z.mono sub, hn, sub _ hfr, sub _ hdf, sub _ hlc, hx.mono fun _ _ z => z.mono sub, .head _, .tail _ (.head _), hz.mono fun _ _ z => z.mono suba⟩⟩
  · intro p hp
    refine N p ?_
    simp only [List.mem_cons, List.mem_append] at hp ⊢
    rcases hp with h | h | h | h | h <;> simp [h]
  · intro p hp
    simp only [List.mem_cons, List.mem_append] at hp
    rcases hp with rfl | rfl | hp | hp
    · exact Nat.ne_of_gt (hT (L + 1 + 1, o2) (by simp))
    · exact (hl (L + 1 + 1, o2) (by simp)).symm
    · exact Nat.ne_of_gt (ab p hp (L + 1 + 1, o2) (by simp))
    · exact hn2 p hp
end Mine
end
section
open PySem PySem.W PySem.Spec PySem.Calls PyProof.Rows PyProof.Rows.LCg
namespace Mine
theorem mid1_on {M : Model} {A : Around} {Q : Flow → Shared → Prop} {E : Value → Shared → Prop} {env : Env} {rest₀ : List Stmt} {h₀ : Heap} {L : Nat} {s₁ : Shared}
    (kont : ∀ (h : Heap) (tk : Nat) (m₀ : Str → Option Value) (Dv : Nat) (a : Int) (ta : Tok) (b : Int) (tb : Tok) (oc o2 : Obj) (kd : PySem.Str) (tkd : Tok) (wd : Int) (twd : Tok) (hi : Int) (thi : Tok) (sd : Int) (tsd : Tok) (v2 : Option Value), Fr h₀ L h (maps1 kd tkd wd twd hi thi sd tsd m₀) → News h₀ L h [(Dv, vaneOf a ta b tb 0), (L + 1 + 1, o2), (L + 1, oc)] → o2.data = .cell v2 → oc.data = .cell (some (.ref Dv)) → L + 1 < Dv → L + 1 + 1 < Dv → VaneOk a b → kd ∈ kinds → wpAny M A (execs rest₀ env) Q E { s₁ with heap := h, toks := tk }) : ∀ s', Mid1 h₀ L s₁ s' → wpAny M A (execs rest₀ env) Q E s' := by
  rintro s' ⟨h, tk, m₀, Dv, a, ta, b, tb, oc, o2, kd, tkd, wd, twd, hi, thi, sd, tsd, v2, rfl, h0, h1, h2, h3, h4, h5, h6, h7⟩
  exact kont h tk m₀ Dv a ta b tb oc o2 kd tkd wd twd hi thi sd tsd v2 h0 h1 h2 h3 h4 h5 h6 h7

theorem mid2_on {M : Model} {A : Around} {Q : Flow → Shared → Prop} {E : Value → Shared → Prop} {env : Env} {rest₀ : List Stmt} {h₀ : Heap} {L : Nat} {s₁ : Shared}
    (kont : ∀ (h : Heap) (tk : Nat) (m₀ : Str → Option Value) (Dv : Nat) (a : Int) (ta : Tok) (b : Int) (tb : Tok) (oc o2 : Obj) (kd : PySem.Str) (tkd : Tok) (wd : Int) (twd : Tok) (hi : Int) (thi : Tok) (sd : Int) (tsd : Tok) (R : Addr) (ys : List Value) (mm : Nat) (rs : List R4) (rest : List (Addr × Obj)) (v2 : Option Value), Fr h₀ L h (fun y => if y = Str.ofString "rows" then some (.ref R) else maps1 kd tkd wd twd hi thi sd tsd m₀ y) → News h₀ L h ((Dv, vaneOf a ta b tb 0) :: (L + 1 + 1, o2) :: rest) → o2.data = .cell v2 → oc.data = .cell (some (.ref Dv)) → L + 1 < Dv → L + 1 + 1 < Dv → VaneOk a b → kd ∈ kinds → (∀ p ∈ rest, p.1 ≠ Dv) → (∀ p ∈ rest, p.1 ≠ L + 1 + 1) → (L + 1, oc) ∈ rest → (R, listOf ys.toArray mm) ∈ rest → All2 (RowIn rest) ys rs → rs.length ≤ 4 → wpAny M A (execs rest₀ env) Q E { s₁ with heap := h, toks := tk }) : ∀ s', Mid2 h₀ L s₁ s' → wpAny M A (execs rest₀ env) Q E s' := by
  rintro s' ⟨h, tk, m₀, Dv, a, ta, b, tb, oc, o2, kd, tkd, wd, twd, hi, thi, sd, tsd, R, ys, mm, rs, rest, v2, rfl, h0, h1, h2, h3, h4, h5, h6, h7, h8, h9, h10, h11, h12, h13⟩
  exact kont h tk m₀ Dv a ta b tb oc o2 kd tkd wd twd hi thi sd tsd R ys mm rs rest v2 h0 h1 h2 h3 h4 h5 h6 h7 h8 h9 h10 h11 h12 h13

theorem mid3_on {M : Model} {A : Around} {Q : Flow → Shared → Prop} {E : Value → Shared → Prop} {env : Env} {rest₀ : List Stmt} {w : World} {h₀ : Heap} {L : Nat} {s₁ : Shared}
    (kont : ∀ (h : Heap) (tk : Nat) (m₀ : Str → Option Value) (Dv : Nat) (a : Int) (ta : Tok) (b : Int) (tb : Tok) (oc o2 : Obj) (kd : PySem.Str) (tkd : Tok) (wd : Int) (twd : Tok) (hi : Int) (thi : Tok) (sd : Int) (tsd : Tok) (R : Addr) (ys : List Value) (mm : Nat) (rs : List R4) (rest : List (Addr × Obj))     (fr df lc : Addr) (k1 k2 k3 k4 k5 k6 tp : Tok) (pr : Int) (xs : List Value) (nn : Nat) (v2 : Option Value), Fr h₀ L h (maps3 fr R kd tkd wd twd hi thi sd tsd m₀) → News h₀ L h ((Dv, vaneOf a ta b tb 0) :: (L + 1 + 1, o2) :: rest) → o2.data = .cell v2 → oc.data = .cell (some (.ref Dv)) → L + 1 < Dv → L + 1 + 1 < Dv → VaneOk a b → kd ∈ kinds → (∀ p ∈ rest, p.1 ≠ Dv) → (∀ p ∈ rest, p.1 ≠ L + 1 + 1) → (L + 1, oc) ∈ rest → (R, listOf ys.toArray mm) ∈ rest → All2 (RowIn rest) ys rs → rs.length ≤ 4 → (fr, instObj 111 df) ∈ rest → (df, frameD w k1 k2 k3 k4 k5 k6 (.str kd tkd) (.int pr tp) (.int hi thi) (.int wd twd) (.ref lc) (.int sd tsd)) ∈ rest → (lc, listOf xs.toArray nn) ∈ rest → All2 (CompIn w rest) xs rs → wpAny M A (execs rest₀ env) Q E { s₁ with heap := h, toks := tk }) : ∀ s', Mid3 w h₀ L s₁ s' → wpAny M A (execs rest₀ env) Q E s' := by
  rintro s' ⟨h, tk, m₀, Dv, a, ta, b, tb, oc, o2, kd, tkd, wd, twd, hi, thi, sd, tsd, R, ys, mm, rs, rest, fr, df, lc, k1, k2, k3, k4, k5, k6, tp, pr, xs, nn, v2, rfl, h0, h1, h2, h3, h4, h5, h6, h7, h8, h9, h10, h11, h12, h13, h14, h15, h16, h17⟩
  exact kont h tk m₀ Dv a ta b tb oc o2 kd tkd wd twd hi thi sd tsd R ys mm rs rest fr df lc k1 k2 k3 k4 k5 k6 tp pr xs nn v2 h0 h1 h2 h3 h4 h5 h6 h7 h8 h9 h10 h11 h12 h13 h14 h15 h16 h17

theorem mid4_on {M : Model} {A : Around} {Q : Flow → Shared → Prop} {E : Value → Shared → Prop} {env : Env} {rest₀ : List Stmt} {w : World} {h₀ : Heap} {L : Nat} {s₁ : Shared}
    (kont : ∀ (h : Heap) (tk : Nat) (m₀ : Str → Option Value) (o2 : Obj) (rest : List (Addr × Obj)) (g : PySem.Str) (tg : Tok) (kd : PySem.Str) (tkd : Tok) (wd : Int) (twd : Tok) (hi : Int) (thi : Tok) (sd : Int) (tsd : Tok) (R : Addr) (ys : List Value) (mm : Nat) (rs : List R4)     (fr df lc : Addr) (k1 k2 k3 k4 k5 k6 tp : Tok) (pr : Int) (xs : List Value) (nn : Nat) (T l : Addr) (zs : List Value) (ml : Nat) (v2 : Option Value), Fr h₀ L h (maps4 g tg T fr R kd tkd wd twd hi thi sd tsd m₀) → News h₀ L h ((L + 1 + 1, o2) :: rest) → o2.data = .cell v2 → (∀ p ∈ rest, p.1 ≠ L + 1 + 1) → g ∈ goals → Held w rest kd tkd wd twd hi thi sd tsd R ys mm rs fr df lc k1 k2 k3 k4 k5 k6 tp pr xs nn T l zs ml → wpAny M A (execs rest₀ env) Q E { s₁ with heap := h, toks := tk }) : ∀ s', Mid4 w h₀ L s₁ s' → wpAny M A (execs rest₀ env) Q E s' := by
  rintro s' ⟨h, tk, m₀, o2, rest, g, tg, kd, tkd, wd, twd, hi, thi, sd, tsd, R, ys, mm, rs, fr, df, lc, k1, k2, k3, k4, k5, k6, tp, pr, xs, nn, T, l, zs, ml, v2, rfl, h0, h1, h2, h3, h4, h5⟩
  exact kont h tk m₀ o2 rest g tg kd tkd wd twd hi thi sd tsd R ys mm rs fr df lc k1 k2 k3 k4 k5 k6 tp pr xs nn T l zs ml v2 h0 h1 h2 h3 h4 h5

end Mine
end
section
open PySem PySem.W PySem.Spec PySem.Calls PyProof.Rows PyProof.Rows.LCg PyProof.V
namespace Mine
def uprights : List PySem.Str := [Str.ofString "ac", Str.ofString "ca", Str.ofString "bd", Str.ofString "db"]
def endsTab : List (PyData × PyData) := [(.str (Str.ofString "stay"), .str (Str.ofString "ab")), (.str (Str.ofString "left"), .str (Str.ofString "bd")), (.str (Str.ofString "back"), .str (Str.ofString "dc")), (.str (Str.ofString "right"), .str (Str.ofString "ca")),
  (.str (Str.ofString "mirror"), .str (Str.ofString "ba")), (.str (Str.ofString "flip"), .str (Str.ofString "cd")), (.str (Str.ofString "swap"), .str (Str.ofString "ac")), (.str (Str.ofString "cross"), .str (Str.ofString "db"))]
def endsOk (g : PySem.Str) : Bool := match PySem.Spec.lookup (.str g) endsTab with
  | some (.str e) => uprights.any (· == e) == up g
  | _ => false
theorem ends_all : goals.all endsOk = true := by decide +kernel
theorem ends_look {g : PySem.Str} {R : Value → Prop} (hg : g ∈ goals) (h : ∀ e te, uprights.any (· == e) = up g → R (.str e te)) : KysD PyData.str g endsTab (fun dv => KysVal dv fun v => R v) False := by
  have z := List.all_eq_true.mp ends_all g hg
  unfold endsOk at z
  unfold KysD
  split at z
  · rename_i e he
    rw [he]
    refine KysVal.intro fun v hv => ?_
    obtain ⟨t, rfl⟩ := Flat.str_inv hv
    exact h e t (by simpa using z)
  · cases z
theorem in_up {prog : Program} {w : World} {A : Around} {E : Value → Shared → Prop} {s : Shared} {t : Addr} {vs : List Value} {x : PySem.Str} {u : Tok} {b : Bool} {Q : Value → Shared → Prop} (ht : IsTup s.heap t vs.toArray) (hi : StrsAre vs uprights) (hb : uprights.any (· == x) = b)
    (h : Q (.bool b) s) : wpAny (model prog w) A (compareOp .In (.str x u) (.ref t)) Q E s :=
  in_tuple_strs ht (by simpa using hi) (by rw [hb]; exact h)
theorem stage2 {M : Model} {A : Around} {Q : Flow → Shared → Prop} {E : Value → Shared → Prop} {s : Shared} {env : Env} {s1 s2 : Stmt} {rest : List Stmt} (Mid : Shared → Prop)
    (a : wpAny M A (exec s1 env) (StageEnd fun t1 => wpAny M A (exec s2 env) (StageEnd Mid) E t1) E s)
    (b : ∀ s', Mid s' → wpAny M A (execs rest env) Q E s') : wpAny M A (execs (s1 :: s2 :: rest) env) Q E s :=
  stage _ a fun _ h1 => stage _ h1 b
end Mine
end
section
open PySem PySem.W PySem.Spec PySem.Calls PyProof.Rows PyProof.Rows.LCg PyProof.V
namespace Mine
abbrev maps5 (e : PySem.Str) (te : Tok) (g : PySem.Str) (tg : Tok) (T fr R : Addr) (kd : PySem.Str) (tkd : Tok) (wd : Int) (twd : Tok) (hi : Int) (thi : Tok) (sd : Int) (tsd : Tok) (m₀ : Str → Option Value) : Str → Option Value :=
  fun y => if y = Str.ofString "ends" then some (.str e te) else maps4 g tg T fr R kd tkd wd twd hi thi sd tsd m₀ y
/-- behind is_upright -/
def Mid6 (w : World) (h₀ : Heap) (L : Nat) (s₁ : Shared) (s' : Shared) : Prop :=
  ∃ (h : Heap) (tk : Nat) (m₀ : Str → Option Value) (o2 : Obj) (rest news : List (Addr × Obj)) (b : Bool) (e : PySem.Str) (te : Tok) (g : PySem.Str) (tg : Tok) (kd : PySem.Str) (tkd : Tok) (wd : Int) (twd : Tok) (hi : Int) (thi : Tok) (sd : Int) (tsd : Tok) (R : Addr) (ys : List Value) (mm : Nat) (rs : List R4)
    (fr df lc : Addr) (k1 k2 k3 k4 k5 k6 tp : Tok) (pr : Int) (xs : List Value) (nn : Nat) (T l : Addr) (zs : List Value) (ml : Nat),
    s' = { s₁ with heap := h, toks := tk } ∧ Fr h₀ L h (maps5 e te g tg T fr R kd tkd wd twd hi thi sd tsd m₀) ∧ News h₀ L h news ∧ (L + 1 + 1, o2) ∈ news ∧ o2.data = .cell (some (.bool b)) ∧ up g = b ∧ (∀ p ∈ rest, p ∈ news) ∧
      Held w rest kd tkd wd twd hi thi sd tsd R ys mm rs fr df lc k1 k2 k3 k4 k5 k6 tp pr xs nn T l zs ml
theorem mid6 {w : World} {h₀ h : Heap} {L : Nat} {s₁ : Shared} {tk : Nat} {m₀ : Str → Option Value} {o2 : Obj} {rest news : List (Addr × Obj)} {e : PySem.Str} {te : Tok} {g : PySem.Str} {tg : Tok} {kd : PySem.Str} {tkd : Tok} {wd : Int} {twd : Tok} {hi : Int} {thi : Tok} {sd : Int} {tsd : Tok} {R : Addr} {ys : List Value} {mm : Nat} {rs : List R4}
    {fr df lc : Addr} {k1 k2 k3 k4 k5 k6 tp : Tok} {pr : Int} {xs : List Value} {nn : Nat} {T l : Addr} {zs : List Value} {ml : Nat}
    (F : Fr h₀ L h (maps5 e te g tg T fr R kd tkd wd twd hi thi sd tsd m₀)) (N : News h₀ L h news) (hd : o2.data = .cell (some (.bool (up g)))) (m2 : (L + 1 + 1, o2) ∈ news) (H : Held w rest kd tkd wd twd hi thi sd tsd R ys mm rs fr df lc k1 k2 k3 k4 k5 k6 tp pr xs nn T l zs ml) (sub : ∀ p ∈ rest, p ∈ news) :
    StageEnd (Mid6 w h₀ L s₁) .next { s₁ with heap := h, toks := tk } :=
  ⟨rfl, h, tk, m₀, o2, rest, news, up g, e, te, g, tg, kd, tkd, wd, twd, hi, thi, sd, tsd, R, ys, mm, rs, fr, df, lc, k1, k2, k3, k4, k5, k6, tp, pr, xs, nn, T, l, zs, ml, rfl, F, N, m2, hd, rfl, sub, H⟩
/-- what is known of the turned frame -/
structure Turned (w : World) (rest news : List (Addr × Obj)) (b : Bool) (kd : PySem.Str) (tkd : Tok) (wd hi sd : Int) (tsd : Tok) (pr : Int) (tp : Tok) (rs : List R4) (X D lst : Addr) (j1 j2 j3 j4 j5 j6 uh uw : Tok) (vs : List Value) (mv : Nat) : Prop where
  hX : (X, instObj 111 D) ∈ news
  hD : (D, frameD w j1 j2 j3 j4 j5 j6 (.str kd tkd) (.int pr tp) (.int (if b then wd else hi) uh) (.int (if b then hi else wd) uw) (.ref lst) (.int sd tsd)) ∈ news
  hl : (lst, listOf vs.toArray mv) ∈ news
  hv : All2 (CompIn w news) vs (rs.map (turnR b))
  ha : ∃ add, Above add rest ∧ All2 (CompIn w add) vs (rs.map (turnR b))
theorem Turned.mono {w : World} {rest news news' : List (Addr × Obj)} {b : Bool} {kd : PySem.Str} {tkd : Tok} {wd hi sd : Int} {tsd : Tok} {pr : Int} {tp : Tok} {rs : List R4} {X D lst : Addr} {j1 j2 j3 j4 j5 j6 uh uw : Tok} {vs : List Value} {mv : Nat} (hs : ∀ p ∈ news, p ∈ news')
    (U : Turned w rest news b kd tkd wd hi sd tsd pr tp rs X D lst j1 j2 j3 j4 j5 j6 uh uw vs mv) : Turned w rest news' b kd tkd wd hi sd tsd pr tp rs X D lst j1 j2 j3 j4 j5 j6 uh uw vs mv where
  hX := hs _ U.hX
  hD := hs _ U.hD
  hl := hs _ U.hl
  hv := U.hv.mono fun _ _ z => z.mono hs
  ha := U.ha
abbrev maps7 (X : Addr) (e : PySem.Str) (te : Tok) (g : PySem.Str) (tg : Tok) (T fr R : Addr) (kd : PySem.Str) (tkd : Tok) (wd : Int) (twd : Tok) (hi : Int) (thi : Tok) (sd : Int) (tsd : Tok) (m₀ : Str → Option Value) : Str → Option Value :=
  fun y => if y = Str.ofString "told" then some (.ref X) else maps5 e te g tg T fr R kd tkd wd twd hi thi sd tsd m₀ y
/-- behind told -/
def Mid7 (w : World) (h₀ : Heap) (L : Nat) (s₁ : Shared) (s' : Shared) : Prop :=
  ∃ (h : Heap) (tk : Nat) (m₀ : Str → Option Value) (o2 : Obj) (rest news : List (Addr × Obj)) (b : Bool) (e : PySem.Str) (te : Tok) (g : PySem.Str) (tg : Tok) (kd : PySem.Str) (tkd : Tok) (wd : Int) (twd : Tok) (hi : Int) (thi : Tok) (sd : Int) (tsd : Tok) (R : Addr) (ys : List Value) (mm : Nat) (rs : List R4)
    (fr df lc : Addr) (k1 k2 k3 k4 k5 k6 tp : Tok) (pr : Int) (xs : List Value) (nn : Nat) (T l : Addr) (zs : List Value) (ml : Nat) (X D lst : Addr) (j1 j2 j3 j4 j5 j6 uh uw : Tok) (vs : List Value) (mv : Nat),
    s' = { s₁ with heap := h, toks := tk } ∧ Fr h₀ L h (maps7 X e te g tg T fr R kd tkd wd twd hi thi sd tsd m₀) ∧ News h₀ L h news ∧ (L + 1 + 1, o2) ∈ news ∧ o2.data = .cell (some (.bool b)) ∧ (∀ p ∈ rest, p ∈ news) ∧
      Held w rest kd tkd wd twd hi thi sd tsd R ys mm rs fr df lc k1 k2 k3 k4 k5 k6 tp pr xs nn T l zs ml ∧ Turned w rest news b kd tkd wd hi sd tsd pr tp rs X D lst j1 j2 j3 j4 j5 j6 uh uw vs mv
theorem mid7 {w : World} {h₀ h : Heap} {L : Nat} {s₁ : Shared} {tk : Nat} {m₀ : Str → Option Value} {o2 : Obj} {rest old add : List (Addr × Obj)} {b : Bool} {e : PySem.Str} {te : Tok} {g : PySem.Str} {tg : Tok} {kd : PySem.Str} {tkd : Tok} {wd : Int} {twd : Tok} {hi : Int} {thi : Tok} {sd : Int} {tsd : Tok} {R : Addr} {ys : List Value} {mm : Nat} {rs : List R4}
    {fr df lc : Addr} {k1 k2 k3 k4 k5 k6 tp : Tok} {pr : Int} {xs : List Value} {nn : Nat} {T l : Addr} {zs : List Value} {ml : Nat} {X D lst : Addr} {j1 j2 j3 j4 j5 j6 uh uw : Tok} {vs : List Value} {mv : Nat}
    (F : Fr h₀ L h (maps7 X e te g tg T fr R kd tkd wd twd hi thi sd tsd m₀))
    (N : News h₀ L h ((X, instObj 111 D) :: (D, frameD w j1 j2 j3 j4 j5 j6 (.str kd tkd) (.int pr tp) (.int (if b then wd else hi) uh) (.int (if b then hi else wd) uw) (.ref lst) (.int sd tsd)) :: (lst, listOf vs.toArray mv) :: (add ++ old)))
    (ab : Above add old) (hv : All2 (CompIn w add) vs (rs.map (turnR b))) (hd : o2.data = .cell (some (.bool b))) (m2 : (L + 1 + 1, o2) ∈ old) (H : Held w rest kd tkd wd twd hi thi sd tsd R ys mm rs fr df lc k1 k2 k3 k4 k5 k6 tp pr xs nn T l zs ml) (sub : ∀ p ∈ rest, p ∈ old) :
    StageEnd (Mid7 w h₀ L s₁) .next { s₁ with heap := h, toks := tk } := by
  refine ⟨rfl, h, tk, m₀, o2, rest, _, b, e, te, g, tg, kd, tkd, wd, twd, hi, thi, sd, tsd, R, ys, mm, rs, fr, df, lc, k1, k2, k3, k4, k5, k6, tp, pr, xs, nn, T, l, zs, ml, X, D, lst, j1, j2, j3, j4, j5, j6, uh, uw, vs, mv, rfl, F, N, by simp [m2], hd, fun p hp => by simp [sub p hp], H,
    ⟨.head _, .tail _ (.head _), .tail _ (.tail _ (.head _)), hv.mono fun _ _ z => z.mono fun p hp => by simp [hp], add, ab.sub sub, hv⟩⟩
abbrev tup2 (a b : Value) (n : Nat) : Obj := { cls := .type "tuple", data := .seq #[a, b] n }
abbrev maps8 (S X : Addr) (e : PySem.Str) (te : Tok) (g : PySem.Str) (tg : Tok) (T fr R : Addr) (kd : PySem.Str) (tkd : Tok) (wd : Int) (twd : Tok) (hi : Int) (thi : Tok) (sd : Int) (tsd : Tok) (m₀ : Str → Option Value) : Str → Option Value :=
  fun y => if y = Str.ofString "sides" then some (.ref S) else maps7 X e te g tg T fr R kd tkd wd twd hi thi sd tsd m₀ y
/-- behind sides -/
def Mid8 (w : World) (h₀ : Heap) (L : Nat) (s₁ : Shared) (s' : Shared) : Prop :=
  ∃ (h : Heap) (tk : Nat) (m₀ : Str → Option Value) (o2 : Obj) (rest news : List (Addr × Obj)) (b : Bool) (e : PySem.Str) (te : Tok) (g : PySem.Str) (tg : Tok) (kd : PySem.Str) (tkd : Tok) (wd : Int) (twd : Tok) (hi : Int) (thi : Tok) (sd : Int) (tsd : Tok) (R : Addr) (ys : List Value) (mm : Nat) (rs : List R4)
    (fr df lc : Addr) (k1 k2 k3 k4 k5 k6 tp : Tok) (pr : Int) (xs : List Value) (nn : Nat) (T l : Addr) (zs : List Value) (ml : Nat) (X D lst : Addr) (j1 j2 j3 j4 j5 j6 uh uw : Tok) (vs : List Value) (mv : Nat) (S : Addr) (t1 t2 : Tok),
    s' = { s₁ with heap := h, toks := tk } ∧ Fr h₀ L h (maps8 S X e te g tg T fr R kd tkd wd twd hi thi sd tsd m₀) ∧ News h₀ L h news ∧ (L + 1 + 1, o2) ∈ news ∧ o2.data = .cell (some (.bool b)) ∧ (∀ p ∈ rest, p ∈ news) ∧
      Held w rest kd tkd wd twd hi thi sd tsd R ys mm rs fr df lc k1 k2 k3 k4 k5 k6 tp pr xs nn T l zs ml ∧ Turned w rest news b kd tkd wd hi sd tsd pr tp rs X D lst j1 j2 j3 j4 j5 j6 uh uw vs mv ∧
      (S, tup2 (.int (if b then hi else wd) t1) (.int (if b then wd else hi) t2) 0) ∈ news
theorem mid8 {w : World} {h₀ h : Heap} {L : Nat} {s₁ : Shared} {tk : Nat} {m₀ : Str → Option Value} {o2 : Obj} {rest old : List (Addr × Obj)} {b : Bool} {e : PySem.Str} {te : Tok} {g : PySem.Str} {tg : Tok} {kd : PySem.Str} {tkd : Tok} {wd : Int} {twd : Tok} {hi : Int} {thi : Tok} {sd : Int} {tsd : Tok} {R : Addr} {ys : List Value} {mm : Nat} {rs : List R4}
    {fr df lc : Addr} {k1 k2 k3 k4 k5 k6 tp : Tok} {pr : Int} {xs : List Value} {nn : Nat} {T l : Addr} {zs : List Value} {ml : Nat} {X D lst : Addr} {j1 j2 j3 j4 j5 j6 uh uw : Tok} {vs : List Value} {mv : Nat} {S : Addr} {t1 t2 : Tok}
    (F : Fr h₀ L h (maps8 S X e te g tg T fr R kd tkd wd twd hi thi sd tsd m₀)) (N : News h₀ L h ((S, tup2 (.int (if b then hi else wd) t1) (.int (if b then wd else hi) t2) 0) :: old))
    (hd : o2.data = .cell (some (.bool b))) (m2 : (L + 1 + 1, o2) ∈ old) (sub : ∀ p ∈ rest, p ∈ old) (H : Held w rest kd tkd wd twd hi thi sd tsd R ys mm rs fr df lc k1 k2 k3 k4 k5 k6 tp pr xs nn T l zs ml) (U : Turned w rest old b kd tkd wd hi sd tsd pr tp rs X D lst j1 j2 j3 j4 j5 j6 uh uw vs mv) :
    StageEnd (Mid8 w h₀ L s₁) .next { s₁ with heap := h, toks := tk } :=
  ⟨rfl, h, tk, m₀, o2, rest, _, b, e, te, g, tg, kd, tkd, wd, twd, hi, thi, sd, tsd, R, ys, mm, rs, fr, df, lc, k1, k2, k3, k4, k5, k6, tp, pr, xs, nn, T, l, zs, ml, X, D, lst, j1, j2, j3, j4, j5, j6, uh, uw, vs, mv, S, t1, t2, rfl, F, N, .tail _ m2, hd, sub1 sub, H, U.mono (sub1 sub0), .head _⟩
abbrev maps9 (R2 S X : Addr) (e : PySem.Str) (te : Tok) (g : PySem.Str) (tg : Tok) (T fr R : Addr) (kd : PySem.Str) (tkd : Tok) (wd : Int) (twd : Tok) (hi : Int) (thi : Tok) (sd : Int) (tsd : Tok) (m₀ : Str → Option Value) : Str → Option Value :=
  fun y => if y = Str.ofString "due" then some (.ref R2) else maps8 S X e te g tg T fr R kd tkd wd twd hi thi sd tsd m₀ y
/-- behind due -/
def Mid9 (w : World) (h₀ : Heap) (L : Nat) (s₁ : Shared) (s' : Shared) : Prop :=
  ∃ (h : Heap) (tk : Nat) (m₀ : Str → Option Value) (rest news : List (Addr × Obj)) (b : Bool) (e : PySem.Str) (te : Tok) (g : PySem.Str) (tg : Tok) (kd : PySem.Str) (tkd : Tok) (wd : Int) (twd : Tok) (hi : Int) (thi : Tok) (sd : Int) (tsd : Tok) (R : Addr) (ys : List Value) (mm : Nat) (rs : List R4)
    (fr df lc : Addr) (k1 k2 k3 k4 k5 k6 tp : Tok) (pr : Int) (xs : List Value) (nn : Nat) (T l : Addr) (zs : List Value) (ml : Nat) (X D lst : Addr) (j1 j2 j3 j4 j5 j6 uh uw : Tok) (vs : List Value) (mv : Nat) (S : Addr) (t1 t2 : Tok) (R2 : Addr) (ws : List Value) (mw : Nat),
    s' = { s₁ with heap := h, toks := tk } ∧ Fr h₀ L h (maps9 R2 S X e te g tg T fr R kd tkd wd twd hi thi sd tsd m₀) ∧ News h₀ L h news ∧ (∀ p ∈ rest, p ∈ news) ∧
      Held w rest kd tkd wd twd hi thi sd tsd R ys mm rs fr df lc k1 k2 k3 k4 k5 k6 tp pr xs nn T l zs ml ∧ Turned w rest news b kd tkd wd hi sd tsd pr tp rs X D lst j1 j2 j3 j4 j5 j6 uh uw vs mv ∧
      (S, tup2 (.int (if b then hi else wd) t1) (.int (if b then wd else hi) t2) 0) ∈ news ∧ (R2, listOf ws.toArray mw) ∈ news ∧ All2 (RowIn news) ws (rs.map (turnR b))
theorem mid9 {w : World} {h₀ h : Heap} {L : Nat} {s₁ : Shared} {tk : Nat} {m₀ : Str → Option Value} {rest old add : List (Addr × Obj)} {b : Bool} {e : PySem.Str} {te : Tok} {g : PySem.Str} {tg : Tok} {kd : PySem.Str} {tkd : Tok} {wd : Int} {twd : Tok} {hi : Int} {thi : Tok} {sd : Int} {tsd : Tok} {R : Addr} {ys : List Value} {mm : Nat} {rs : List R4}
    {fr df lc : Addr} {k1 k2 k3 k4 k5 k6 tp : Tok} {pr : Int} {xs : List Value} {nn : Nat} {T l : Addr} {zs : List Value} {ml : Nat} {X D lst : Addr} {j1 j2 j3 j4 j5 j6 uh uw : Tok} {vs : List Value} {mv : Nat} {S : Addr} {t1 t2 : Tok} {R2 : Addr} {ws : List Value} {mw : Nat}
    (F : Fr h₀ L h (maps9 R2 S X e te g tg T fr R kd tkd wd twd hi thi sd tsd m₀)) (N : News h₀ L h ((R2, listOf ws.toArray mw) :: (add ++ old))) (hw : All2 (RowIn (add ++ rest)) ws (rs.map (turnR b)))
    (sub : ∀ p ∈ rest, p ∈ old) (H : Held w rest kd tkd wd twd hi thi sd tsd R ys mm rs fr df lc k1 k2 k3 k4 k5 k6 tp pr xs nn T l zs ml) (U : Turned w rest old b kd tkd wd hi sd tsd pr tp rs X D lst j1 j2 j3 j4 j5 j6 uh uw vs mv)
    (hS : (S, tup2 (.int (if b then hi else wd) t1) (.int (if b then wd else hi) t2) 0) ∈ old) :
    StageEnd (Mid9 w h₀ L s₁) .next { s₁ with heap := h, toks := tk } :=
  ⟨rfl, h, tk, m₀, rest, _, b, e, te, g, tg, kd, tkd, wd, twd, hi, thi, sd, tsd, R, ys, mm, rs, fr, df, lc, k1, k2, k3, k4, k5, k6, tp, pr, xs, nn, T, l, zs, ml, X, D, lst, j1, j2, j3, j4, j5, j6, uh, uw, vs, mv, S, t1, t2, R2, ws, mw, rfl, F, N, fun p hp => by simp [sub p hp], H,
    U.mono fun p hp => by simp [hp], by simp [hS], .head _, hw.mono fun _ _ z => z.mono fun p hp => by
      rcases List.mem_append.mp hp with hp | hp
      · simp [hp]
      · simp [sub p hp]⟩
end Mine
end
section
open PySem PySem.W PySem.Spec PySem.Calls PyProof.Rows PyProof.Rows.LCg
namespace Mine
theorem mid6_on {M : Model} {A : Around} {Q : Flow → Shared → Prop} {E : Value → Shared → Prop} {env : Env} {rest₀ : List Stmt} {w : World} {h₀ : Heap} {L : Nat} {s₁ : Shared}
    (kont : ∀ (h : Heap) (tk : Nat) (m₀ : Str → Option Value) (o2 : Obj) (rest news : List (Addr × Obj)) (b : Bool) (e : PySem.Str) (te : Tok) (g : PySem.Str) (tg : Tok) (kd : PySem.Str) (tkd : Tok) (wd : Int) (twd : Tok) (hi : Int) (thi : Tok) (sd : Int) (tsd : Tok) (R : Addr) (ys : List Value) (mm : Nat) (rs : List R4)     (fr df lc : Addr) (k1 k2 k3 k4 k5 k6 tp : Tok) (pr : Int) (xs : List Value) (nn : Nat) (T l : Addr) (zs : List Value) (ml : Nat), Fr h₀ L h (maps5 e te g tg T fr R kd tkd wd twd hi thi sd tsd m₀) → News h₀ L h news → (L + 1 + 1, o2) ∈ news → o2.data = .cell (some (.bool b)) → up g = b → (∀ p ∈ rest, p ∈ news) → Held w rest kd tkd wd twd hi thi sd tsd R ys mm rs fr df lc k1 k2 k3 k4 k5 k6 tp pr xs nn T l zs ml → wpAny M A (execs rest₀ env) Q E { s₁ with heap := h, toks := tk }) : ∀ s', Mid6 w h₀ L s₁ s' → wpAny M A (execs rest₀ env) Q E s' := by
  rintro s' ⟨h, tk, m₀, o2, rest, news, b, e, te, g, tg, kd, tkd, wd, twd, hi, thi, sd, tsd, R, ys, mm, rs, fr, df, lc, k1, k2, k3, k4, k5, k6, tp, pr, xs, nn, T, l, zs, ml, rfl, h0, h1, h2, h3, h4, h5, h6⟩
  exact kont h tk m₀ o2 rest news b e te g tg kd tkd wd twd hi thi sd tsd R ys mm rs fr df lc k1 k2 k3 k4 k5 k6 tp pr xs nn T l zs ml h0 h1 h2 h3 h4 h5 h6

theorem mid7_on {M : Model} {A : Around} {Q : Flow → Shared → Prop} {E : Value → Shared → Prop} {env : Env} {rest₀ : List Stmt} {w : World} {h₀ : Heap} {L : Nat} {s₁ : Shared}
    (kont : ∀ (h : Heap) (tk : Nat) (m₀ : Str → Option Value) (o2 : Obj) (rest news : List (Addr × Obj)) (b : Bool) (e : PySem.Str) (te : Tok) (g : PySem.Str) (tg : Tok) (kd : PySem.Str) (tkd : Tok) (wd : Int) (twd : Tok) (hi : Int) (thi : Tok) (sd : Int) (tsd : Tok) (R : Addr) (ys : List Value) (mm : Nat) (rs : List R4)     (fr df lc : Addr) (k1 k2 k3 k4 k5 k6 tp : Tok) (pr : Int) (xs : List Value) (nn : Nat) (T l : Addr) (zs : List Value) (ml : Nat) (X D lst : Addr) (j1 j2 j3 j4 j5 j6 uh uw : Tok) (vs : List Value) (mv : Nat), Fr h₀ L h (maps7 X e te g tg T fr R kd tkd wd twd hi thi sd tsd m₀) → News h₀ L h news → (L + 1 + 1, o2) ∈ news → o2.data = .cell (some (.bool b)) → (∀ p ∈ rest, p ∈ news) → Held w rest kd tkd wd twd hi thi sd tsd R ys mm rs fr df lc k1 k2 k3 k4 k5 k6 tp pr xs nn T l zs ml → Turned w rest news b kd tkd wd hi sd tsd pr tp rs X D lst j1 j2 j3 j4 j5 j6 uh uw vs mv → wpAny M A (execs rest₀ env) Q E { s₁ with heap := h, toks := tk }) : ∀ s', Mid7 w h₀ L s₁ s' → wpAny M A (execs rest₀ env) Q E s' := by
  rintro s' ⟨h, tk, m₀, o2, rest, news, b, e, te, g, tg, kd, tkd, wd, twd, hi, thi, sd, tsd, R, ys, mm, rs, fr, df, lc, k1, k2, k3, k4, k5, k6, tp, pr, xs, nn, T, l, zs, ml, X, D, lst, j1, j2, j3, j4, j5, j6, uh, uw, vs, mv, rfl, h0, h1, h2, h3, h4, h5, h6⟩
  exact kont h tk m₀ o2 rest news b e te g tg kd tkd wd twd hi thi sd tsd R ys mm rs fr df lc k1 k2 k3 k4 k5 k6 tp pr xs nn T l zs ml X D lst j1 j2 j3 j4 j5 j6 uh uw vs mv h0 h1 h2 h3 h4 h5 h6

theorem mid8_on {M : Model} {A : Around} {Q : Flow → Shared → Prop} {E : Value → Shared → Prop} {env : Env} {rest₀ : List Stmt} {w : World} {h₀ : Heap} {L : Nat} {s₁ : Shared}
    (kont : ∀ (h : Heap) (tk : Nat) (m₀ : Str → Option Value) (o2 : Obj) (rest news : List (Addr × Obj)) (b : Bool) (e : PySem.Str) (te : Tok) (g : PySem.Str) (tg : Tok) (kd : PySem.Str) (tkd : Tok) (wd : Int) (twd : Tok) (hi : Int) (thi : Tok) (sd : Int) (tsd : Tok) (R : Addr) (ys : List Value) (mm : Nat) (rs : List R4)     (fr df lc : Addr) (k1 k2 k3 k4 k5 k6 tp : Tok) (pr : Int) (xs : List Value) (nn : Nat) (T l : Addr) (zs : List Value) (ml : Nat) (X D lst : Addr) (j1 j2 j3 j4 j5 j6 uh uw : Tok) (vs : List Value) (mv : Nat) (S : Addr) (t1 t2 : Tok), Fr h₀ L h (maps8 S X e te g tg T fr R kd tkd wd twd hi thi sd tsd m₀) → News h₀ L h news → (L + 1 + 1, o2) ∈ news → o2.data = .cell (some (.bool b)) → (∀ p ∈ rest, p ∈ news) → Held w rest kd tkd wd twd hi thi sd tsd R ys mm rs fr df lc k1 k2 k3 k4 k5 k6 tp pr xs nn T l zs ml → Turned w rest news b kd tkd wd hi sd tsd pr tp rs X D lst j1 j2 j3 j4 j5 j6 uh uw vs mv → (S, tup2 (.int (if b then hi else wd) t1) (.int (if b then wd else hi) t2) 0) ∈ news → wpAny M A (execs rest₀ env) Q E { s₁ with heap := h, toks := tk }) : ∀ s', Mid8 w h₀ L s₁ s' → wpAny M A (execs rest₀ env) Q E s' := by
  rintro s' ⟨h, tk, m₀, o2, rest, news, b, e, te, g, tg, kd, tkd, wd, twd, hi, thi, sd, tsd, R, ys, mm, rs, fr, df, lc, k1, k2, k3, k4, k5, k6, tp, pr, xs, nn, T, l, zs, ml, X, D, lst, j1, j2, j3, j4, j5, j6, uh, uw, vs, mv, S, t1, t2, rfl, h0, h1, h2, h3, h4, h5, h6, h7⟩
  exact kont h tk m₀ o2 rest news b e te g tg kd tkd wd twd hi thi sd tsd R ys mm rs fr df lc k1 k2 k3 k4 k5 k6 tp pr xs nn T l zs ml X D lst j1 j2 j3 j4 j5 j6 uh uw vs mv S t1 t2 h0 h1 h2 h3 h4 h5 h6 h7

theorem mid9_on {M : Model} {A : Around} {Q : Flow → Shared → Prop} {E : Value → Shared → Prop} {env : Env} {rest₀ : List Stmt} {w : World} {h₀ : Heap} {L : Nat} {s₁ : Shared}
    (kont : ∀ (h : Heap) (tk : Nat) (m₀ : Str → Option Value) (rest news : List (Addr × Obj)) (b : Bool) (e : PySem.Str) (te : Tok) (g : PySem.Str) (tg : Tok) (kd : PySem.Str) (tkd : Tok) (wd : Int) (twd : Tok) (hi : Int) (thi : Tok) (sd : Int) (tsd : Tok) (R : Addr) (ys : List Value) (mm : Nat) (rs : List R4)     (fr df lc : Addr) (k1 k2 k3 k4 k5 k6 tp : Tok) (pr : Int) (xs : List Value) (nn : Nat) (T l : Addr) (zs : List Value) (ml : Nat) (X D lst : Addr) (j1 j2 j3 j4 j5 j6 uh uw : Tok) (vs : List Value) (mv : Nat) (S : Addr) (t1 t2 : Tok) (R2 : Addr) (ws : List Value) (mw : Nat), Fr h₀ L h (maps9 R2 S X e te g tg T fr R kd tkd wd twd hi thi sd tsd m₀) → News h₀ L h news → (∀ p ∈ rest, p ∈ news) → Held w rest kd tkd wd twd hi thi sd tsd R ys mm rs fr df lc k1 k2 k3 k4 k5 k6 tp pr xs nn T l zs ml → Turned w rest news b kd tkd wd hi sd tsd pr tp rs X D lst j1 j2 j3 j4 j5 j6 uh uw vs mv → (S, tup2 (.int (if b then hi else wd) t1) (.int (if b then wd else hi) t2) 0) ∈ news → (R2, listOf ws.toArray mw) ∈ news → All2 (RowIn news) ws (rs.map (turnR b)) → wpAny M A (execs rest₀ env) Q E { s₁ with heap := h, toks := tk }) : ∀ s', Mid9 w h₀ L s₁ s' → wpAny M A (execs rest₀ env) Q E s' := by
  rintro s' ⟨h, tk, m₀, rest, news, b, e, te, g, tg, kd, tkd, wd, twd, hi, thi, sd, tsd, R, ys, mm, rs, fr, df, lc, k1, k2, k3, k4, k5, k6, tp, pr, xs, nn, T, l, zs, ml, X, D, lst, j1, j2, j3, j4, j5, j6, uh, uw, vs, mv, S, t1, t2, R2, ws, mw, rfl, h0, h1, h2, h3, h4, h5, h6, h7⟩
  exact kont h tk m₀ rest news b e te g tg kd tkd wd twd hi thi sd tsd R ys mm rs fr df lc k1 k2 k3 k4 k5 k6 tp pr xs nn T l zs ml X D lst j1 j2 j3 j4 j5 j6 uh uw vs mv S t1 t2 R2 ws mw h0 h1 h2 h3 h4 h5 h6 h7

section
variable {prog : Program} {w : World} {A : Around} {h₀ : Heap} {L : Addr} {m : Str → Option Value} {env : Env} {elt : PySem.Expr} {x : Str} {scope : Scope} {cl : List (Str × Addr)} {s : Shared} {E : Value → Shared → Prop}
theorem due_src {ax : Addr} {mm : Nat} {b : Bool} {ys : List Value} {rs : List R4} {base news : List (Addr × Obj)} {Fin : Shared → List Value → List (Addr × Obj) → Prop} (hh : A.handled = none) (F : Fr h₀ L s.heap m) (N : News h₀ L s.heap news)
    (src : All2 (RowIn base) ys rs) (hn : rs.length ≤ 4) (hm : (ax, listOf ys.toArray mm) ∈ news) (hb : ∀ p ∈ base, p ∈ news)
    (turn : ∀ T i a d q ti ta td tq n news' I oI C oC D ys' m₂ h tk (E' : Value → Shared → Prop), (T, tup4 (.int i ti) (.int a ta) (.int d td) (.int q tq) n) ∈ news' → (T, tup4 (.int i ti) (.int a ta) (.int d td) (.int q tq) n) ∈ base → (∀ p ∈ news, p ∈ news') → NsObj oC m₂ → m₂ x = some (.ref T) →
      Fr h₀ L h m → News h₀ L h ((I, oI) :: (C, oC) :: (D, lst ys') :: news') →
      wpAny (model prog w) A (eval elt (compEnvC scope cl C env)) (TurnEnd h₀ L m { s with heap := h, toks := tk } ((I, oI) :: (C, oC) :: (D, lst ys') :: news') (fun new y => RowIn (new ++ base) y (turnR b ⟨i, a, d, q⟩))) E' { s with heap := h, toks := tk })
    (fin : ∀ g ws add, Above add news → All2 (RowIn (add ++ base)) ws (rs.map (turnR b)) → Fin { s with heap := g } ws (add ++ news)) :
    CompSrc prog w A h₀ L m env elt x scope cl Fin (.ref ax) s := by
  have hsz : ys.toArray.size ≤ sizeLine := by
    have e := src.length
    rw [List.size_toArray, sizeLine_eq]
    omega
  refine CompSrc.ledger hh F N hm hsz fun g => ?_
  refine map_rest (RS := RowIn) (RT := RowIn) (f := turnR b) (base := base) (keep := base) RowIn.mono RowIn.mono srcAt_mono src hb (Or.inr ⟨_, hm, rfl, _, rfl⟩) ?_ (fun xs add ab h => fin g xs add ab h)
  rintro v ⟨i, a, d, q⟩ news' I oI C oC D ys' m₂ h tk E' hr hs hC hx F N
  obtain ⟨T, ti, ta, td, tq, n, rfl, hT⟩ := row_out hr
  exact turn T i a d q ti ta td tq n news' I oI C oC D ys' m₂ h tk E' (hs _ (hb _ hT)) hT hs hC hx F N
theorem due_new {led base : List (Addr × Obj)} {h' : Heap} {tk' : Nat} {T : Addr} {i a d q : Int} {ti ta td tq : Tok} {n : Nat} (F : Fr h₀ L h' m) (N : News h₀ L h' ((T, tup4 (.int i ti) (.int a ta) (.int d td) (.int q tq) n) :: led)) (l : AllLt T led) :
    TurnEnd h₀ L m s led (fun new y => RowIn (new ++ base) y (turnR true ⟨i, d, a, q⟩)) (.ref T) { s with heap := h', toks := tk' } :=
  TurnEnd.intro [(T, _)] F N (Above.cons l Above.nil) (row_in (.head _))
theorem due_old {led base : List (Addr × Obj)} {h' : Heap} {tk' : Nat} {T : Addr} {i a d q : Int} {ti ta td tq : Tok} {n : Nat} (F : Fr h₀ L h' m) (N : News h₀ L h' led) (hT : (T, tup4 (.int i ti) (.int a ta) (.int d td) (.int q tq) n) ∈ base) :
    TurnEnd h₀ L m s led (fun new y => RowIn (new ++ base) y (turnR false ⟨i, a, d, q⟩)) (.ref T) { s with heap := h', toks := tk' } :=
  TurnEnd.intro [] F N Above.nil (row_in hT)
end
end Mine
namespace Mine
structure DueNow (b : Bool) : Prop where
section
variable {prog : Program} {w : World} {A : Around} {h₀ : Heap} {L : Addr} {m : Str → Option Value} {env : Env} {elt : PySem.Expr} {x : Str} {scope : Scope} {cl : List (Str × Addr)} {s : Shared} {E : Value → Shared → Prop}
theorem due_at {ax : Addr} {mm : Nat} {b : Bool} {ys : List Value} {rs : List R4} {base news : List (Addr × Obj)} {c2 : Addr} {o2 : Obj} {Fin : Shared → List Value → List (Addr × Obj) → Prop} (_d : DueNow b) (_hd2 : o2.data = .cell (some (.bool b))) (m2 : (c2, o2) ∈ news) (hh : A.handled = none) (F : Fr h₀ L s.heap m) (N : News h₀ L s.heap news)
    (src : All2 (RowIn base) ys rs) (hn : rs.length ≤ 4) (hm : (ax, listOf ys.toArray mm) ∈ news) (hb : ∀ p ∈ base, p ∈ news)
    (turn : ∀ T i a d q ti ta td tq n news' I oI C oC D ys' m₂ h tk (E' : Value → Shared → Prop), (T, tup4 (.int i ti) (.int a ta) (.int d td) (.int q tq) n) ∈ news' → (T, tup4 (.int i ti) (.int a ta) (.int d td) (.int q tq) n) ∈ base → (c2, o2) ∈ news' → NsObj oC m₂ → m₂ x = some (.ref T) →
      Fr h₀ L h m → News h₀ L h ((I, oI) :: (C, oC) :: (D, lst ys') :: news') →
      wpAny (model prog w) A (eval elt (compEnvC scope cl C env)) (TurnEnd h₀ L m { s with heap := h, toks := tk } ((I, oI) :: (C, oC) :: (D, lst ys') :: news') (fun new y => RowIn (new ++ base) y (turnR b ⟨i, a, d, q⟩))) E' { s with heap := h, toks := tk })
    (fin : ∀ g ws add, Above add news → All2 (RowIn (add ++ base)) ws (rs.map (turnR b)) → Fin { s with heap := g } ws (add ++ news)) :
    CompSrc prog w A h₀ L m env elt x scope cl Fin (.ref ax) s := due_src hh F N src hn hm hb (fun T i a d q ti ta td tq n news' I oI C oC D ys' m₂ h tk E' h1 h2 h3 h4 h5 h6 h7 => turn T i a d q ti ta td tq n news' I oI C oC D ys' m₂ h tk E' h1 h2 (h3 _ m2) h4 h5 h6 h7) fin
end
end Mine
end
section
open PySem PySem.W PySem.Spec PySem.Calls PyProof.Rows PyProof.Rows.LCg PyProof.V
namespace Mine
theorem subR {α : Type} {l j k : List α} (h : ∀ p ∈ l, p ∈ k) : ∀ p ∈ l, p ∈ j ++ k := fun p hp => List.mem_append.mpr (.inr (h p hp))
theorem kinds_ok {kd : PySem.Str} (h : kd ∈ kinds) : PyData.strOk kd = true := List.all_eq_true.mp (show kinds.all PyData.strOk = true by decide +kernel) kd h
def toldD (kd : PySem.Str) (a b c d : Int) (rs : List R4) : Dat := .tuple [.str kd, .int a, .int b, .int c, .int d, .list (rs.map rowDat)]
theorem rowDat_ok (r : R4) (n : Nat) : kqdOk (n + 1) (rowDat r) = true := by
  simp [rowDat, kqdOk]
theorem toldD_ok {kd : PySem.Str} {a b c d : Int} {rs : List R4} (h : kd ∈ kinds) : kqdOk 8 (toldD kd a b c d rs) = true := by
  have := kinds_ok h
  simp only [toldD, kqdOk, List.all_cons, List.all_nil, this, Bool.and_true, Bool.true_and]
  rw [List.all_eq_true]
  intro e he
  obtain ⟨r, _, rfl⟩ := List.mem_map.mp he
  exact rowDat_ok r 5
theorem toldD_in {news base : List (Addr × Obj)} {T l : Addr} {kd : PySem.Str} {a b c d : Int} {tk ta tb tc td : Tok} {n m : Nat} {ys : List Value} {rs : List R4} (hT : (T, tup6 (.str kd tk) (.int a ta) (.int b tb) (.int c tc) (.int d td) (.ref l) n) ∈ news) (hl : (l, listOf ys.toArray m) ∈ news)
    (hy : All2 (RowIn base) ys rs) (hs : ∀ p ∈ base, p ∈ news) : DatIn news (.ref T) (toldD kd a b c d rs) :=
  DatIn.tuple (vs := [.str kd tk, .int a ta, .int b tb, .int c tc, .int d td, .ref l]) hT (.cons (.str _ _) (.cons (.int _ _) (.cons (.int _ _) (.cons (.int _ _) (.cons (.int _ _) (.cons (.list hl (rows_all (hy.mono fun _ _ z => z.mono hs))) .nil))))))
section
variable {prog : Program} {w : World} {A : Around} {E : Value → Shared → Prop} {s : Shared} {h₀ : Heap} {L : Addr} {news : List (Addr × Obj)} {a b : Addr} {d d' : Dat} {Q : Value → Shared → Prop}
theorem dat_same (N : News h₀ L s.heap news) (Da : DatIn news (.ref a) d) (Db : DatIn news (.ref b) d') (e : d = d') (ha : kqdOk 8 d = true) (hu : A.units + 64 < cLine) (h : Q (.bool false) s) : wpAny (model prog w) A (compareOp .NotEq (.ref a) (.ref b)) Q E s := by
  subst e
  obtain ⟨as, ra⟩ := kqd_in N 8 Da ha
  obtain ⟨bs, rb⟩ := kqd_in N 8 Db ha
  have la := kqd_lay 8 d ha
  have q : PyData.eqv (kqdP d) (kqdP d) = true := (kqd_eqv 8 d d 8 ha ha).mpr rfl
  refine ne_dataH ra rb ?_ ?_ hu (by rw [q]; exact h)
  · unfold SeqAt.shaped; rw [la.1, Bool.true_and]; exact decide_eq_true (Nat.le_trans la.2 (by decide))
  · unfold SeqAt.shaped; rw [la.1, Bool.true_and]; exact decide_eq_true (Nat.le_trans la.2 (by decide))
end
end Mine
namespace Mine
theorem mid9_more {w : World} {h₀ h : Heap} {L : Nat} {s₁ : Shared} {tk : Nat} {m₀ : Str → Option Value} {rest old news : List (Addr × Obj)} {b : Bool} {e : PySem.Str} {te : Tok} {g : PySem.Str} {tg : Tok} {kd : PySem.Str} {tkd : Tok} {wd : Int} {twd : Tok} {hi : Int} {thi : Tok} {sd : Int} {tsd : Tok} {R : Addr} {ys : List Value} {mm : Nat} {rs : List R4}
    {fr df lc : Addr} {k1 k2 k3 k4 k5 k6 tp : Tok} {pr : Int} {xs : List Value} {nn : Nat} {T l : Addr} {zs : List Value} {ml : Nat} {X D lst : Addr} {j1 j2 j3 j4 j5 j6 uh uw : Tok} {vs : List Value} {mv : Nat} {S : Addr} {t1 t2 : Tok} {R2 : Addr} {ws : List Value} {mw : Nat}
    (F : Fr h₀ L h (maps9 R2 S X e te g tg T fr R kd tkd wd twd hi thi sd tsd m₀)) (N : News h₀ L h news) (hs : ∀ p ∈ old, p ∈ news)
    (sub : ∀ p ∈ rest, p ∈ old) (H : Held w rest kd tkd wd twd hi thi sd tsd R ys mm rs fr df lc k1 k2 k3 k4 k5 k6 tp pr xs nn T l zs ml) (U : Turned w rest old b kd tkd wd hi sd tsd pr tp rs X D lst j1 j2 j3 j4 j5 j6 uh uw vs mv)
    (hS : (S, tup2 (.int (if b then hi else wd) t1) (.int (if b then wd else hi) t2) 0) ∈ old) (hR : (R2, listOf ws.toArray mw) ∈ old) (hw : All2 (RowIn old) ws (rs.map (turnR b))) :
    StageEnd (Mid9 w h₀ L s₁) .next { s₁ with heap := h, toks := tk } :=
  ⟨rfl, h, tk, m₀, rest, _, b, e, te, g, tg, kd, tkd, wd, twd, hi, thi, sd, tsd, R, ys, mm, rs, fr, df, lc, k1, k2, k3, k4, k5, k6, tp, pr, xs, nn, T, l, zs, ml, X, D, lst, j1, j2, j3, j4, j5, j6, uh, uw, vs, mv, S, t1, t2, R2, ws, mw, rfl, F, N, fun p hp => hs p (sub p hp), H,
    U.mono hs, hs _ hS, hs _ hR, hw.mono fun _ _ z => z.mono hs⟩
end Mine
end
section
open PySem PySem.W PySem.Spec PySem.Calls PyProof.Rows PyProof.Rows.LCg PyProof.V
namespace Mine
theorem subL {α : Type} {l k : List α} : ∀ p ∈ l, p ∈ l ++ k := fun p hp => List.mem_append.mpr (.inl hp)
theorem adjust_upto (b n : Nat) (h : b ≤ n) : Builtin.Slice.sliceAdjust none (some (b : Int)) 1 (n : Int) = ((0 : Int), (b : Int)) := by
  unfold Builtin.Slice.sliceAdjust
  have h1 : ¬ ((1 : Int) < 0) := by omega
  have h2 : ¬ ((b : Int) < 0) := by omega
  simp only [h1, h2, if_false]
  congr 1
  omega
theorem places_upto (b : Nat) : Builtin.Slice.slicePlaces (0 : Int) (b : Int) 1 = b := by
  unfold Builtin.Slice.slicePlaces
  have h1 : (1 : Int) > 0 := by omega
  simp only [h1, if_true, Int.ediv_one]
  split <;> omega
theorem pick_upto (xs : Array Value) (b : Nat) (_h : b ≤ xs.size) : ((List.range b).filterMap fun (k : Nat) => xs[((0 : Int) + (k : Int) * 1).toNat]?).toArray = (xs.toList.take b).toArray := by
  have e : (fun (k : Nat) => xs[((0 : Int) + (k : Int) * 1).toNat]?) = fun k => xs[0 + k]? := by
    funext k
    have : ((0 : Int) + (k : Int) * 1).toNat = 0 + k := by omega
    rw [this]
  rw [e]
  have := pick_run xs 0 b
  rw [List.filterMap_map] at this
  have e2 : ((fun x => xs[x]?) ∘ fun x => 0 + x) = fun k => xs[0 + k]? := rfl
  rw [e2] at this
  rw [this, List.drop_zero]
section
variable {prog : Program} {w : World} {A : Around} {E : Value → Shared → Prop} {s : Shared}
theorem applied_upto {sl : Addr} {b n : Nat} {u : Tok} {Q : Int × Int × Nat → Shared → Prop} (hs : s.heap.IsSliceOf sl .none (.int b u) .none) (hb : b ≤ n) (h : Q ((0 : Int), 1, b) s) :
    wpAny (model prog w) A (Builtin.Slice.sliceApplied (.ref sl) (pure (n : Int))) Q E s := by
  obtain ⟨os, hos, hcs, hds⟩ := id hs
  unfold Builtin.Slice.sliceApplied Builtin.Slice.sliceFields
  refine wpAny_bind (wpAny_bind (wpAny_field hos hds (x := .none) rfl (wpAny_bind (wpAny_field hos hds (x := .int b u) rfl (wpAny_bind (wpAny_field hos hds (x := .none) rfl (wpAny_pure ?_)))))))
  refine wpAny_bind (slicePart_none ?_)
  show wpAny _ _ (if ((1 : Int) == 0) = true then _ else _) _ _ s
  rw [if_neg (by decide)]
  refine wpAny_bind (slicePart_none (wpAny_bind (slicePart_int (wpAny_bind (wpAny_pure ?_)))))
  show wpAny _ _ (match Builtin.Slice.sliceAdjust none (some (b : Int)) 1 (n : Int) with | (lo, hi) => pure (lo, (1 : Int), Builtin.Slice.slicePlaces lo hi 1)) _ _ s
  rw [adjust_upto b n hb]
  show wpAny _ _ (pure ((0 : Int), (1 : Int), Builtin.Slice.slicePlaces (0 : Int) (b : Int) 1)) _ _ s
  rw [places_upto b]
  exact wpAny_pure h
theorem getTuple_upto {t sl : Addr} {items : Array Value} {b : Nat} {u : Tok} {Q : Value → Shared → Prop} (ht : IsTup s.heap t items) (hs : s.heap.IsSliceOf sl .none (.int b u) .none) (hb : b < items.size)
    (h : Q (.ref s.heap.objs.size) { s with heap := s.heap.push { cls := .type "tuple", data := .seq (items.toList.take b).toArray } })
    (hsz : items.size ≤ sizeLine) : wpAny (model prog w) A (getItem (.ref t) (.ref sl)) Q E s := by
  have htk : sizeOk (.seq (items.toList.take b).toArray) := by
    show (items.toList.take b).toArray.size ≤ sizeLine
    rw [List.size_toArray, List.length_take, Array.length_toList]
    omega
  obtain ⟨os, hos, hcs, hds⟩ := id hs
  have hTs : s.TypeIs (.ref sl) "slice" := ⟨os, hos, hcs⟩
  unfold getItem
  try with_reducible refine wpAny_holding ?_
  first | refine wpAny_bind (wpAny_pure ?_) | skip
  refine wpAny_bind (wpAny_sequenceKey ht.typeIs (by decide) ?_)
  refine wpAny_bind (wpAny_callSpecial?_slot (name := Str.ofString "__getitem__") ht.typeIs slot_tuple_getitem
    (wpAny_call_entry slot_tuple_getitem ht.typeIs entry_tuple_getitem ?_ (args_tuple_getitem _ _)))
  show wpAny _ _ (Builtin.Tuple.tupleItemsOf (.ref t) >>= _) _ _ s
  refine wpAny_bind (tupleItemsOf_ ht ?_)
  refine wpAny_bind (wpAny_typeOf hTs ?_)
  rw [if_pos (by decide)]
  refine wpAny_bind (applied_upto hs (Nat.le_of_lt hb) ?_)
  have hno : ¬ (((0 : Int) == 0 && (1 : Int) == 1 && b == items.size) = true) := by
    have : (b == items.size) = false := by rw [beq_eq_false_iff_ne]; omega
    rw [this]; simp
  show wpAny _ _ (if ((0 : Int) == 0 && (1 : Int) == 1 && b == items.size) = true then _ else _) _ _ s
  rw [if_neg hno, pick_upto items b (Nat.le_of_lt hb)]
  first
    | exact wpAny_bind (m := Builtin.Tuple.tupleExact _) (wpAny_newObj_type (wpAny_pure ⟨_, rfl, wpAny_pure h⟩) htk)
    | exact wpAny_bind (m := Builtin.Tuple.tupleExact _) (wpAny_newObj_type (wpAny_bind (wpAny_pure (wpAny_pure ⟨_, rfl, wpAny_pure h⟩))) htk)
    | exact wpAny_bind (wpAny_bind (m := Builtin.Tuple.tupleExact _) (wpAny_newObj_type (wpAny_pure (wpAny_pure ⟨_, rfl, wpAny_pure h⟩)) htk))
    | exact wpAny_bind (wpAny_bind (m := Builtin.Tuple.tupleExact _) (wpAny_newObj_type (wpAny_pure ⟨_, rfl, wpAny_pure h⟩) htk))
end
section
variable {prog : Program} {w : World} {A : Around} {E : Value → Shared → Prop} {s : Shared} {h₀ : Heap} {L : Addr} {m : Str → Option Value} {news : List (Addr × Obj)}
theorem slice_first3 {value slice : Expr} {t : Addr} {v1 v2 v3 v4 v5 v6 : Value} {u : Tok} {n : Nat} {Q : Value → Shared → Prop}
    (F : Fr h₀ L s.heap m) (N : News h₀ L s.heap news) (ht : (t, tup6 v1 v2 v3 v4 v5 v6 n) ∈ news)
    (h : ∀ D h', Fr h₀ L h' m → News h₀ L h' ((D, (⟨.type "tuple", none, .seq #[v1, v2, v3] 0, #[]⟩ : Obj)) :: news) → (∀ p ∈ news, p.1 < D) → Q (.ref D) { s with heap := h' })
    (hs : subscripted slice false (.ref t) (.ref s.heap.objs.size) = operate [.ref s.heap.objs.size, .ref t] (getItem (.ref t) (.ref s.heap.objs.size)))
    (hg : ∀ r, letTemporaryGo value (.ref t) r = pure ()) :
    wpAny (model prog w) A (subscriptTail value slice (.ref t) (.ref s.heap.objs.size)) Q E { s with heap := s.heap.push { cls := .type "slice", data := .fields #[.none, .int 3 u, .none] } } := by
  have ht0 : IsTup s.heap t #[v1, v2, v3, v4, v5, v6] := News.isTup N ht
  have ht' : IsTup (s.heap.push { cls := .type "slice", data := .fields #[.none, .int 3 u, .none] }) t #[v1, v2, v3, v4, v5, v6] := ht0.keeps fun _ _ e => Heap.get?_push_of_some _ e
  refine subscriptTail_ops (s := { s with heap := s.heap.push { cls := .type "slice", data := .fields #[.none, .int 3 u, .none] } }) ht'.typeIs slot_tuple_getitem.lookup
    (getTuple_upto (b := 3) ht' (Heap.IsSliceOf.new ..) (Nat.le_of_ble_eq_true rfl) ?_ (Nat.le_of_ble_eq_true rfl)) hs hg
  have N1 := News.push (F.push { cls := .type "slice", data := .fields #[.none, .int 3 u, .none] }) (N.grown fun _ _ e => Heap.get?_push_of_some _ e) { cls := .type "tuple", data := .seq #[v1, v2, v3] }
  rw [Heap.size_push] at N1
  show Q (.ref (s.heap.push _).objs.size) _
  rw [Heap.size_push]
  exact h _ _ ((F.push _).push _) N1 fun p hp => Nat.lt_succ_of_lt (Heap.lt_size (N p hp).1)
theorem tup_add {t b : Addr} {vs us : List Value} {n k : Nat} {Q : Value → Shared → Prop} {o1 o2 : Obj} (F : Fr h₀ L s.heap m) (N : News h₀ L s.heap news) (ht : (t, o1) ∈ news) (hb : (b, o2) ∈ news)
    (e1 : o1 = ⟨.type "tuple", none, .seq vs.toArray n, #[]⟩) (e2 : o2 = ⟨.type "tuple", none, .seq us.toArray k, #[]⟩)
    (hv : vs ≠ []) (hw : us ≠ []) (hz : vs.length + us.length ≤ 16384)
    (h : ∀ D h', Fr h₀ L h' m → News h₀ L h' ((D, (⟨.type "tuple", none, .seq (vs ++ us).toArray 0, #[]⟩ : Obj)) :: news) → (∀ p ∈ news, p.1 < D) → Q (.ref D) { s with heap := h' }) :
    wpAny (model prog w) A (binaryOp .Add (.ref t) (.ref b)) Q E s := by
  subst e1 e2
  exact kde_addT F N (News.isTup N ht) (News.isTup N hb) hv hw hz rfl h
end
end Mine
end
section
open PySem PySem.W PySem.Spec PySem.Calls PyProof.Rows PyProof.Rows.LCg PyProof.V
namespace Mine
/-- two values that stand for two objects of the ledger, neither the other, the first no tuple -/
def Other (news : List (Addr × Obj)) (x y : Value) : Prop := ∃ (a b : Addr) (oa ob : Obj), x = .ref a ∧ y = .ref b ∧ a ≠ b ∧ (a, oa) ∈ news ∧ (b, ob) ∈ news ∧ oa.cls ≠ .type "tuple"
/-- the pairs that a comprehension over two lists draws, none of them one object twice -/
def ZipNone (A : Around) (h₀ : Heap) (L : Addr) (m : Str → Option Value) (Q : Value → Shared → Prop) (xv : Value) (s₁ : Shared) : Prop :=
  ∃ (z TI TO i1 i2 l1 l2 : Addr) (xs ys : Array Value) (H0 : Heap) (news : List (Addr × Obj)), xv = .ref z ∧ A.handled = none ∧ ZipApart z TI TO i1 i2 l1 l2 ∧
    (IsZip s₁.heap z TI TO .none ∧ IsPair s₁.heap TI (.ref i1) (.ref i2) ∧ (∃ a b, IsPair s₁.heap TO a b) ∧ s₁.heap.IsListIter i1 l1 0 ∧ s₁.heap.IsListIter i2 l2 0 ∧ s₁.heap.IsList l1 xs ∧ s₁.heap.IsList l2 ys) ∧
    Fr h₀ L H0 m ∧ News h₀ L H0 news ∧ (∀ b o, H0.get? b = some o → s₁.heap.get? b = some o) ∧ (H0.objs.size ≤ z ∧ H0.objs.size ≤ TO ∧ H0.objs.size ≤ i1 ∧ H0.objs.size ≤ i2) ∧
    (∀ (i : Nat) x y, xs[i]? = some x → ys[i]? = some y → Other news x y) ∧
    ∀ D h tk, Fr h₀ L h m → News h₀ L h ((D, lst []) :: news) → (∀ p ∈ news, p.1 < D) → Q (.ref D) { s₁ with heap := h, toks := tk }
section
variable {prog : Program} {w : World} {A : Around} {E : Value → Shared → Prop} {s : Shared} {h₀ : Heap} {L : Addr} {m : Str → Option Value} {env : Env}
theorem zip_src {l1 l2 : Addr} {xs ys : List Value} {n1 n2 : Nat} {news : List (Addr × Obj)} {Q : Value → Shared → Prop} (hh : A.handled = none) (F : Fr h₀ L s.heap m) (N : News h₀ L s.heap news) (h1 : (l1, listOf xs.toArray n1) ∈ news) (h2 : (l2, listOf ys.toArray n2) ∈ news)
    (ne : ∀ (i : Nat) x y, xs.toArray[i]? = some x → ys.toArray[i]? = some y → Other news x y)
    (fin : ∀ D h tk, Fr h₀ L h m → News h₀ L h ((D, lst []) :: news) → (∀ p ∈ news, p.1 < D) → Q (.ref D) { s with heap := h, toks := tk }) :
    wpAny (model prog w) A (call (.type "zip") [.ref l1, .ref l2]) (ZipNone A h₀ L m Q) E s := by
  refine zip_rows F (News.isList N h1) (News.isList N h2) fun h' z TI TO i1 i2 D hst F' up gz gT g1 g2 _ => ?_
  exact ⟨z, TI, TO, i1, i2, l1, l2, _, _, s.heap, news, rfl, hh, D, hst, F, N, up, ⟨gz, gT, g1, g2⟩, ne, fun D h tk F N lt => fin D h tk F N lt⟩
theorem is_test {a b : Str} {pa pb pc : Pos} {e : Env} {m' : Str → Option Value} {x y : Addr} {ox oy : Obj} {whole : Sem Value} {Q : Bool → Shared → Prop} (hk : e.scope.kind = .function) (ha : e.kindOf a = some .local) (hb : e.kindOf b = some .local)
    (hn : s.heap.Ns e.locals m') (ma : m' a = some (.ref x)) (mb : m' b = some (.ref y)) (hxy : x ≠ y) (hx : s.heap.get? x = some ox) (hy : s.heap.get? y = some oy) (hnt : ox.cls ≠ .type "tuple")
    (da : (a == ("__debug__" : Str)) = false) (db : (b == ("__debug__" : Str)) = false) (h : Q false s) :
    wpAny (model prog w) A (isTrue (.Compare (.Name a pa) [.Is] [.Name b pb] pc) e whole) Q E s :=
  wpAny_isTrue_Compare1 (wpAny_Name (wpAny_loadName_local hk ha hn ma (wpAny_Name (wpAny_loadName_local hk hb hn mb (wpAny_is_ref_other hxy hx hy hnt (wpAny_pure h))) db)) da)
theorem zip_none {elt iter : PySem.Expr} {a b : Str} {pa pb tp qa qb pc : Pos} {kk : Nat} {scope : Scope} {cl : List (Str × Addr)} {pos : Pos} {Q : Value → Shared → Prop}
    (_F₀ : Fr h₀ L s.heap m) (hclos : closureFor scope env = pure cl) (hcell : ∀ y ∈ scope.names, y.2 ≠ .cell) (hkind : scope.kind = .function)
    (hnames : ∀ y ∈ scope.names, y.2 = .local → scope.names.lookup y.1 = some .local) (hxa : scope.names.lookup a = some .local) (hxb : scope.names.lookup b = some .local) (hab : ¬ a = b)
    (da : (a == ("__debug__" : Str)) = false) (db : (b == ("__debug__" : Str)) = false)
    (h : wpAny (model prog w) A (eval iter env) (ZipNone A h₀ L m Q) E s)
    (hs : ∀ x, foldedSetIterable iter env x = pure x) :
    wpAny (model prog w) A (eval (.ListComp elt [⟨.Tuple [.Name a pa, .Name b pb] kk tp, iter, [.Compare (.Name a qa) [.Is] [.Name b qb] pc], 0⟩] scope pos) env) Q E s := by
  rw [eval_ListComp]
  refine wpAny_comprehension_free (use := none) rfl hs hclos hkind hnames (wpAny_mono h (fun xv s₁ h₁ => ?_) fun _ _ e => e)
  obtain ⟨z, TI, TO, i1, i2, l1, l2, xs, ys, H0, news, rfl, hh, D, hst, F, N, up0, ⟨gz, gT, g1, g2⟩, ne, fin⟩ := h₁
  have W := (WalksT.zip2 (prog := prog) (w := w) hh z TI TO i1 i2 l1 l2 D xs ys).toU
  have hfp : ∀ b ∈ [z, TI, TO, i1, i2, l1, l2], b < s₁.heap.objs.size := by
    obtain ⟨hz, hTI, ⟨ta, tb, hTO⟩, ⟨o1, k1, _⟩, ⟨o2, k2, _⟩, ⟨ol1, k3, _⟩, ⟨ol2, k4, _⟩⟩ := hst
    intro b hb
    simp only [List.mem_cons, List.not_mem_nil, or_false] at hb
    rcases hb with rfl | rfl | rfl | rfl | rfl | rfl | rfl
    · exact Heap.lt_size hz
    · exact Heap.lt_size hTI
    · exact Heap.lt_size hTO
    · exact Heap.lt_size k1
    · exact Heap.lt_size k2
    · exact Heap.lt_size k3
    · exact Heap.lt_size k4
  have h0z : ∀ b, b < H0.objs.size → b ∉ [z, TO, i1, i2] := fun b hb hm => by
    simp only [List.mem_cons, List.not_mem_nil, or_false] at hm
    rcases hm with rfl | rfl | rfl | rfl
    · exact absurd hb (Nat.not_lt.mpr gz)
    · exact absurd hb (Nat.not_lt.mpr gT)
    · exact absurd hb (Nat.not_lt.mpr g1)
    · exact absurd hb (Nat.not_lt.mpr g2)
  have hle : H0.objs.size ≤ s₁.heap.objs.size := Nat.le_of_lt (Nat.lt_of_le_of_lt gz (hfp z List.mem_cons_self))
  refine wpAny_pyIter_zip hst.1 ?_
  refine wpAny_newObj_type (wpAny_newFunctionEnv hcell (by intro y hy; simp at hy) (fun h₁ hns₁ hsb₁ => ?_) hkind)
  dsimp only at hns₁ hsb₁ ⊢
  generalize hH2 : s₁.heap.push { cls := .type "list", dict := none, data := .seq ([] : List Value).toArray } = H2 at hns₁ hsb₁ ⊢
  have hC : H2.objs.size = s₁.heap.objs.size + 1 := by rw [← hH2, Heap.size_push]
  have hDC : s₁.heap.objs.size ≠ H2.objs.size := by rw [hC]; exact Nat.ne_of_lt (Nat.lt_succ_self _)
  have below : ∀ b, b < s₁.heap.objs.size → b ≠ H2.objs.size ∧ b ≠ s₁.heap.objs.size := fun b hb => ⟨by rw [hC]; exact Nat.ne_of_lt (Nat.lt_succ_of_lt hb), Nat.ne_of_lt hb⟩
  have old : ∀ b o, s₁.heap.get? b = some o → h₁.get? b = some o := fun b o e => hsb₁.extBut b o (below b (Heap.lt_size e)).1 (Heap.get?_push_of_some _ (hH2 ▸ Heap.get?_push_of_some _ e))
  have hacc : h₁.get? s₁.heap.objs.size = some (lst []) := hsb₁.extBut _ _ hDC (Heap.get?_push_of_some _ (hH2 ▸ Heap.get?_push_size _ rfl))
  have hst₁ := W.frame 0 s₁.heap h₁ hst fun b _ o e => old b o e
  have hCw : H2.objs.size ∉ [z, TO, i1, i2] := fun hm => (below _ (hfp _ (W.sub _ hm))).1 rfl
  have hDw : s₁.heap.objs.size ∉ [z, TO, i1, i2] := fun hm => (below _ (hfp _ (W.sub _ hm))).2 rfl
  have loop : ∀ s₃ : Shared, s₃ = { s₁ with heap := h₁, toks := s₁.toks + ([] : List (Str × Value)).length } →
      codeAny (model prog w) A (.compLoop (.ListComp elt [⟨.Tuple [.Name a pa, .Name b pb] kk tp, iter, [.Compare (.Name a qa) [.Is] [.Name b qb] pc], 0⟩] scope pos) 0 (.ref z) (.ref s₁.heap.objs.size) (compEnvC scope cl H2.objs.size env))
        (compPost (model prog w) A E none Q (.ref s₁.heap.objs.size) H2.objs.size) s₃ := by
    rintro s₃ rfl
    refine kct_loop
      (fun k s' => ∃ h' tk i m', s' = { s₁ with heap := h', toks := tk } ∧ i ≤ min xs.size ys.size ∧ k = min xs.size ys.size + 1 - i ∧
        (IsZip h' z TI TO .none ∧ IsPair h' TI (.ref i1) (.ref i2) ∧ (∃ a b, IsPair h' TO a b) ∧ h'.IsListIter i1 l1 i ∧ h'.IsListIter i2 l2 i ∧ h'.IsList l1 xs ∧ h'.IsList l2 ys) ∧
        h'.Ns H2.objs.size m' ∧ h'.get? s₁.heap.objs.size = some (lst []) ∧ ∀ b o, H0.get? b = some o → h'.get? b = some o) ?_ (min xs.size ys.size + 1)
      ⟨h₁, _, 0, _, rfl, Nat.zero_le _, rfl, hst₁, hns₁, hacc, fun b o e => old b o (up0 b o e)⟩
    rintro k s' ⟨h', tk, i, m', rfl, hi, rfl, hst', hn', hacc', up'⟩
    by_cases hlt : i < min xs.size ys.size
    · refine W.item i _ _ _ hlt hst' fun T vals h₂ tk₂ hP hT hMd hk₂ => ?_
      obtain ⟨x, y, hx, hy, rfl⟩ := hP
      refine W.go _ _ _ i T _ _ _ hMd fun h₃ hst₃ hk₃ => ?_
      have hT₃ : h₃.IsTuple T #[x, y] := hT.at fun o e => hk₃ T o (W.apart _ _ _ hMd) e
      have up₃ : ∀ c o, c ∉ [z, TO, i1, i2] → h'.get? c = some o → h₃.get? c = some o := fun c o hc e => hk₃ c o hc (hk₂ c o hc e)
      refine kcp_assign (env := compEnvC scope cl H2.objs.size env) hh hT₃ (lookup_relabel_local hxa) (lookup_relabel_local hxb) (by simp [compEnvC, relabel, hkind]) (hn'.at' fun o e => up₃ _ o hCw e) fun h₄ tk₄ hn₄ hs₄ => ?_
      have hst₄ := W.frame (i + 1) h₃ h₄ hst₃ fun b hb o e => hs₄ b o (below b (hfp b hb)).1 e
      have up₄ : ∀ b o, H0.get? b = some o → h₄.get? b = some o := fun b o e => hs₄ b o (below b (Nat.lt_of_lt_of_le (Heap.lt_size e) hle)).1 (up₃ b o (h0z b (Heap.lt_size e)) (up' b o e))
      have hacc₄ : h₄.get? s₁.heap.objs.size = some (lst []) := hs₄ _ _ hDC (up₃ _ _ hDw hacc')
      obtain ⟨p, q, op, oq, rfl, rfl, hpq, hp, hq, ht⟩ := ne i x y hx hy
      refine is_test (e := compEnvC scope cl H2.objs.size env) (by simp [compEnvC, relabel, hkind]) (lookup_relabel_local hxa) (lookup_relabel_local hxb) hn₄ (x := p) (y := q) (by simp [hab]) (by simp) hpq (up₄ _ _ (N _ hp).1) (up₄ _ _ (N _ hq).1) ht da db ?_
      simp only [Bool.false_eq_true, if_false]
      exact ⟨min xs.size ys.size + 1 - (i + 1), by omega, h₄, _, i + 1, _, rfl, hlt, rfl, hst₄, hn₄, hacc₄, up₄⟩
    · have hin : i = min xs.size ys.size := Nat.le_antisymm hi (Nat.not_lt.mp hlt)
      subst hin
      refine W.done _ _ _ hst' fun h₂ tk₂ hk₂ => ?_
      refine ⟨m', hn'.at' fun o e => hk₂ _ o hCw e, fun h'' hs'' => ?_⟩
      have up₂ : ∀ b o, H0.get? b = some o → h''.get? b = some o := fun b o e => hs''.extBut b o (below b (Nat.lt_of_lt_of_le (Heap.lt_size e) hle)).1 (hk₂ b o (h0z b (Heap.lt_size e)) (up' b o e))
      have acc₂ : h''.get? s₁.heap.objs.size = some (lst []) := hs''.extBut _ _ hDC (hk₂ _ _ hDw hacc')
      have hD₀ : h₀.get? s₁.heap.objs.size = none := by
        cases e : h₀.get? s₁.heap.objs.size with
        | none => rfl
        | some o' => exact absurd (Heap.lt_size (F.keep _ o' e)) (Nat.not_lt.mpr hle)
      refine fin _ h'' tk₂ (F.keeps up₂) (fun p hp => ?_) fun p hp => Nat.lt_of_lt_of_le (Heap.lt_size (N p hp).1) hle
      rcases List.mem_cons.mp hp with rfl | hp
      · exact ⟨acc₂, Nat.ne_of_gt (Nat.lt_of_lt_of_le F.ns.lt hle), hD₀⟩
      · exact (N.grown up₂) p hp
  exact codeAny_compStart_list (loop _ rfl) (wpAny_pyIter_zip hst₁.1 (loop _ rfl))
end
theorem All2.look {α β : Type} {R : α → β → Prop} : ∀ {xs : List α} {ys : List β}, All2 R xs ys → ∀ {i : Nat} {x : α}, xs[i]? = some x → ∃ y, R x y
  | _, _, .nil, i, x, h => by simp at h
  | _, _, .cons r t, 0, x, h => by simp at h; subst h; exact ⟨_, r⟩
  | _, _, .cons r t, i + 1, x, h => t.look (i := i) (by simpa using h)
theorem others {w : World} {rest news : List (Addr × Obj)} {b : Bool} {kd : PySem.Str} {tkd : Tok} {wd hi sd : Int} {tsd : Tok} {pr : Int} {tp : Tok} {rs : List R4} {X D lst : Addr} {j1 j2 j3 j4 j5 j6 uh uw : Tok} {vs xs : List Value} {mv : Nat}
    (U : Turned w rest news b kd tkd wd hi sd tsd pr tp rs X D lst j1 j2 j3 j4 j5 j6 uh uw vs mv) (hc : All2 (CompIn w rest) xs rs) (sub : ∀ p ∈ rest, p ∈ news) :
    ∀ (i : Nat) x y, vs.toArray[i]? = some x → xs.toArray[i]? = some y → Other news x y := by
  intro i x y hx hy
  rw [List.getElem?_toArray] at hx hy
  obtain ⟨add, hab, ha⟩ := U.ha
  obtain ⟨_, p, P1, _, _, _, _, _, _, _, _, e1, h1, _⟩ := ha.look hx
  obtain ⟨_, p', P2, _, _, _, _, _, _, _, _, e2, h2, _⟩ := U.hv.look hx
  obtain ⟨_, q, P3, _, _, _, _, _, _, _, _, e3, h3, _⟩ := hc.look hy
  have : p = p' := Value.ref.inj (e1.symm.trans e2)
  subst this
  exact ⟨p, q, _, _, e1, e3, Nat.ne_of_gt (hab _ h1 _ h3), h2, sub _ h3, by intro z; cases z⟩
end Mine
end
section
namespace Mine
/-- marks: which function's body the walk is in; the lines written for that body ask for its mark -/
structure NowGust : Prop where
structure NowTold : Prop where
structure NowTurned : Prop where
end Mine
end
open PySem PySem.W PyProof.Rows
local macro_rules | `(tactic| k_mem) => `(tactic| first | assumption | exact Mine.mt1 (by assumption) | exact Mine.mt2 (by assumption) | exact Mine.mt3 (by assumption) | exact Mine.mt4 (by assumption) | exact Mine.mt5 (by assumption))
local macro_rules | `(tactic| k_mem) => `(tactic| first | assumption | exact Mine.mt1 (by assumption) | exact Mine.mt2 (by assumption) | exact Mine.mt3 (by assumption) | exact Mine.mt4 (by assumption) | exact Mine.mt5 (by assumption) | exact Mine.mt0 (by assumption) | exact Mine.mt1 (Mine.mt0 (by assumption)) | exact Mine.mt2 (Mine.mt0 (by assumption)) | exact Mine.mt3 (Mine.mt0 (by assumption)) | exact Mine.mt4 (Mine.mt0 (by assumption)) | exact Mine.mt5 (Mine.mt0 (by assumption)))
local macro_rules | `(tactic| size_fits) => `(tactic| assumption)
local macro_rules | `(tactic| k_all) => `(tactic| first | assumption | exact Mine.ne_all (by assumption) | exact Mine.ne_all (And.right (by assumption)))
local macro_rules | `(tactic| walk_at "StageEnd") => `(tactic| (with_reducible refine Mine.stage_next ?_))
local macro_rules | `(tactic| walk_at "call ref") => `(tactic| (
  k_here;
  (with_reducible show wpAny _ _ (PySem.call (Value.ref 130) [Value.ref _]) _ _ _);
  (rename Mine.VaneAll _ _ _ _ _ _ => hV');
  k_dflt (refine' Mine.vane_use' hV' ?k1 ?k2 ?k3 ?k4 ?k5 ?kK ?kl ?ki ?kt ?kd ?ku ?_; (case k1 => k_asm); (case k2 => k_asm); (case k3 => k_asm); (case k4 => k_asm); (case k5 => k_asm); (case kK => first | exact rfl | assumption); (case kl => k_asm); (case ki => l_ints); (case kt => l_fit); (case kd => ktr_room); (case ku => ktr_units));
  intro D' a' b' ta' tb' h' tk' hv' l1 F' N'; (try k_lt l1); (try dsimp only); (try k_sweep); (try k_fold)))
local macro_rules | `(tactic| walk_at "call ref") => `(tactic| (
  k_here;
  (with_reducible show wpAny _ _ (PySem.call (Value.ref 137) [Value.ref _, Value.int _ _]) _ _ _);
  (rename Mine.GustAll _ _ _ _ _ _ => hG');
  k_dflt (refine' Mine.gust_use' hG' ?k1 ?k2 ?k3 ?k4 ?kU ?k5 ?kK ?ka ?km ?kn ?kd ?ku ?_; (case k1 => k_asm); (case k2 => k_asm); (case k3 => k_asm); (case k4 => k_asm); (case kU => k_updF); (case k5 => k_asm); (case kK => first | exact rfl | assumption); (case ka => with_reducible assumption); (case km => decide); (case kn => decide); (case kd => ktr_room); (case ku => ktr_units));
  intro r' a' b' t' ta' tb' h' tk' hv' hr' F' N'; (try dsimp only at N'); (try dsimp only); (try k_sweep); (try k_fold)))
local macro_rules | `(tactic| walk_at "subscriptTail Tuple cons Call ref int") => `(tactic| (
  k_here;
  (with_reducible show wpAny _ _ (subscriptTail _ _ (Value.ref _) (Value.int _ _)) _ _ _);
  (first
  | (k_dflt (refine' Mine.menu_text (vs := [_, _, _, _, _]) ?k1 ?k2 ?k3 ?k4 ?k5 ?_; (case k1 => k_asm); (case k2 => repeat constructor); (case k3 => with_reducible assumption); (case k4 => rfl); (case k5 => decide)); intro k' t' hk' N')
  | (k_dflt (refine' Mine.menu_int (vs := [_, _, _]) ?k1 ?k2 ?k3 ?k4 ?k5 ?_; (case k1 => k_asm); (case k2 => repeat constructor); (case k3 => with_reducible assumption); (case k4 => rfl); (case k5 => decide)); intro k' t' N')
  | (k_dflt (refine' Mine.menu_int (vs := [_, _]) ?k1 ?k2 ?k3 ?k4 ?k5 ?_; (case k1 => k_asm); (case k2 => repeat constructor); (case k3 => with_reducible assumption); (case k4 => rfl); (case k5 => decide)); intro k' t' N'));
  (try k_fold)))
local macro_rules | `(tactic| k_mem) => `(tactic| with_reducible first | assumption | exact Mine.mt1 (by assumption) | exact Mine.mt2 (by assumption) | exact Mine.mt3 (by assumption) | exact Mine.mt4 (by assumption) | exact Mine.mt5 (by assumption))
local macro_rules | `(tactic| walk_at "exec Assign cons ListComp") => `(tactic| (
  k_here;
  k_dflt (refine LCg.Assign_ListComp_U (F₀ := by k_asm) (by rfl) (by with_unfolding_all rfl) (by with_unfolding_all rfl) (by decide) (by rfl) (by decide) (by rfl) (by rfl) (by rfl) ?_)))
local macro_rules | `(tactic| walk_at "CompSrc") => `(tactic| (
  k_here;
  k_dflt (refine' Mine.rows_src (c2 := _ + 1 + 1) ?kh ?kF ?kN ?ho ?m1 ?m2 ?m3 ?hr ?hd ?hv ?l1 ?l2 ?_ ?_; (case hr => assumption); (case ho => assumption); (case kh => rfl); (case kF => k_asm); (case kN => k_asm); (case hd => assumption); (case m1 => k_mem); (case m2 => k_mem); (case m3 => k_mem); (case hv => assumption); (case l1 => assumption); (case l2 => assumption))))
local macro_rules | `(tactic| walk_at "RowEnd") => `(tactic| (
  k_dflt (refine' Mine.RowEnd.intro ?kF ?kN ?hv ?l; (case kF => k_asm); (case kN => k_asm); (case hv => assumption); (case l => assumption))))
local macro_rules | `(tactic| walk_at "eval ListComp") => `(tactic| (
  k_here;
  k_dflt (refine LCg.ListComp_U (F₀ := by k_asm) (by first | rfl | with_unfolding_all rfl) (by decide) (by rfl) (by decide) (by rfl) ?_)))
local macro_rules | `(tactic| walk_at "CompSrc") => `(tactic| (
  k_here;
  (rename Mine.All2 (Mine.RowIn _) _ _ => src9');
  k_dflt (refine' Mine.comps_src ?kh ?kF ?kN src9' ?kn ?km ?ks ?_ ?_; (case kh => rfl); (case kF => k_asm); (case kN => k_asm); (case kn => assumption); (case km => k_mem); (case ks => repeat first | exact Mine.sub0 | refine Mine.sub1 ?_))))
local macro_rules | `(tactic| walk_at "subscriptTail Name Constant ref int") => `(tactic| (
  k_here;
  (with_reducible show wpAny _ _ (subscriptTail _ _ (Value.ref _) (Value.int _ _)) _ _ _);
  k_dflt (refine' Mine.row_get ?kN ?km ?k1 ?k2 ?k3 ?k4 ?_; (case kN => k_asm); (case km => k_mem); (case k1 => decide); (case k2 => decide); (case k3 => rfl); (case k4 => rfl))))
local macro_rules | `(tactic| walk_at "TurnEnd") => `(tactic| (
  k_dflt (refine' Mine.comp_turn ?kF ?kN ?k1 ?k2; (case kF => k_asm); (case kN => k_asm); (case k1 => assumption); (case k2 => assumption))))
local macro_rules | `(tactic| walk_at "call ref") => `(tactic| (
  k_here;
  (with_reducible show wpAny _ _ (PySem.call (Value.ref 45) [Value.int _ _, Value.int _ _, Value.int _ _, Value.int _ _]) _ _ _);
  (rename Mine.CompAll _ _ _ _ _ _ => hC');
  k_dflt (refine' Mine.comp_use hC' ?k1 ?k2 ?k3 ?k4 ?k5 ?kK ?kd ?ku ?_; (case k1 => k_asm); (case k2 => k_asm); (case k3 => k_asm); (case k4 => k_asm); (case k5 => k_asm); (case kK => first | exact rfl | assumption); (case kd => ktr_room); (case ku => ktr_units));
  intro X' D' k1' k2' k3' k4' h' tk' l1 l2 F' N'; (try simp only [AllLt, and_true] at l1); (try k_lt2 l2); (try dsimp only); (try k_sweep); (try k_fold)))
local macro_rules | `(tactic| walk_at "call ref") => `(tactic| (
  k_here;
  (with_reducible show wpAny _ _ (PySem.call (Value.ref 111) [Value.str _ _, Value.int _ _, Value.int _ _, Value.int _ _, Value.ref _, Value.int _ _]) _ _ _);
  (rename Mine.FrameAll _ _ _ _ _ _ => hF');
  k_dflt (refine' Mine.frame_use hF' ?k1 ?k2 ?k3 ?k4 ?k5 ?kK ?kd ?ku ?_; (case k1 => k_asm); (case k2 => k_asm); (case k3 => k_asm); (case k4 => k_asm); (case k5 => k_asm); (case kK => first | exact rfl | assumption); (case kd => ktr_room); (case ku => ktr_units));
  intro X' D' k1' k2' k3' k4' k5' k6' h' tk' l1 l2 F' N'; (try simp only [AllLt, and_true] at l1); (try k_lt2 l2); (try dsimp only); (try k_sweep); (try k_fold)))
local macro_rules | `(tactic| walk_at "call ref") => `(tactic| (
  k_here;
  (with_reducible show wpAny _ _ (PySem.call (Value.ref 142) [Value.ref _]) _ _ _);
  (rename Mine.ToldAll _ _ _ _ _ _ => hT');
  (rename Mine.All2 (Mine.CompIn _ _) _ _ => src9');
  k_dflt (refine' Mine.told_use hT' ?k1 ?k2 ?k3 ?k4 ?k5 ?kK ?ka ?kb ?kc src9' ?ke ?kf ?kd ?ku ?_; (case k1 => k_asm); (case k2 => k_asm); (case k3 => k_asm); (case k4 => k_asm); (case k5 => k_asm); (case kK => first | exact rfl | assumption); (case ka => k_mem); (case kb => k_mem); (case kc => k_mem); (case ke => repeat first | exact Mine.sub0 | refine Mine.sub1 ?_); (case kf => assumption); (case kd => ktr_room); (case ku => ktr_units));
  intro T' l' ys' mm' add' h' tk' hTa' hla' hab' hy' F' N'; (try dsimp only); (try k_sweep); (try k_fold)))
local macro_rules | `(tactic| walk_at "subscriptTail Tuple cons Call ref int") => `(tactic| (
  k_here;
  (with_reducible show wpAny _ _ (subscriptTail _ _ (Value.ref _) (Value.int _ _)) _ _ _);
  (k_dflt (refine' Mine.menu_text (vs := [_, _, _, _, _, _, _, _]) ?k1 ?k2 ?k3 ?k4 ?k5 ?_; (case k1 => k_asm); (case k2 => repeat constructor); (case k3 => with_reducible assumption); (case k4 => rfl); (case k5 => decide)); intro k' t' hk' N');
  (try k_fold)))
local macro_rules | `(tactic| walk_at "KysD") => `(tactic| (
  k_here;
  k_dflt (refine Mine.ends_look (by assumption) ?_);
  intro e' te' he'))
local macro_rules | `(tactic| walk_at "compareOp In str ref") => `(tactic| (
  k_here;
  (with_reducible show wpAny _ _ (compareOp CmpOp.In (Value.str _ _) (Value.ref _)) _ _ _);
  k_dflt (refine' Mine.in_up (vs := [_, _, _, _]) ?ht ?hi ?hb ?_; (case ht => exact News.isTup (by k_asm) (by k_mem)); (case hi => repeat constructor); (case hb => assumption))))
local macro_rules | `(tactic| walk_at "call ref") => `(tactic| (
  k_here;
  (with_reducible show wpAny _ _ (PySem.call (Value.ref 123) [Value.ref _, Value.str _ _]) _ _ _);
  (rename Mine.TurnedAll _ _ _ _ _ _ => hU');
  (rename Mine.All2 (Mine.CompIn _ _) _ _ => src9');
  k_dflt (refine' Mine.turned_use hU' ?k1 ?k2 ?k3 ?k4 ?k5 ?kK ?ka ?kb ?kc src9' ?ke ?kf ?kg ?kh ?kd ?ku ?_; (case k1 => k_asm); (case k2 => k_asm); (case k3 => k_asm); (case k4 => k_asm); (case k5 => k_asm); (case kK => first | exact rfl | assumption); (case ka => k_mem); (case kb => k_mem); (case kc => k_mem); (case ke => first | assumption | (repeat first | exact Mine.sub0 | refine Mine.sub1 ?_)); (case kf => assumption); (case kg => assumption); (case kh => rfl); (case kd => ktr_room); (case ku => ktr_units));
  intro X' D' j1' j2' j3' j4' j5' j6' uh' uw' lst' ys' mm' add' h' tk' hab' hy' F' N'; (try dsimp only); (try k_sweep); (try k_fold)))
local macro_rules | `(tactic| walk_at "CompSrc") => `(tactic| (
  k_here;
  (rename Mine.DueNow _ => due9');
  (rename Mine.All2 (Mine.RowIn _) _ _ => src9');
  k_dflt (refine' Mine.due_at due9' ?kd2 ?km2 ?kh ?kF ?kN src9' ?kn ?km ?ks ?_ ?_; (case kd2 => assumption); (case kh => rfl); (case kF => k_asm); (case kN => k_asm); (case km2 => k_mem); (case kn => assumption); (case km => k_mem); (case ks => first | assumption | (repeat first | exact Mine.sub0 | refine Mine.sub1 ?_)))))
local macro_rules | `(tactic| walk_at "TurnEnd") => `(tactic| (
  k_dflt (first
  | (refine' Mine.due_new ?kF ?kN ?k1; (case kF => k_asm); (case kN => k_asm); (case k1 => assumption))
  | (refine' Mine.due_old ?kF ?kN ?k1; (case kF => k_asm); (case kN => k_asm); (case k1 => assumption)))))
local macro_rules | `(tactic| k_mem) => `(tactic| (with_reducible (repeat first | assumption | exact List.mem_cons_self | refine List.mem_cons_of_mem _ ?_ | refine Mine.mt0 ?_); done))
local macro_rules | `(tactic| walk_at "call ref") => `(tactic| (
  k_here;
  (with_reducible show wpAny _ _ (PySem.call (Value.ref 142) [Value.ref _]) _ _ _);
  (rename Mine.ToldAll _ _ _ _ _ _ => hT');
  k_dflt (refine' Mine.told_use hT' ?k1 ?k2 ?k3 ?k4 ?k5 ?kK ?ka ?kb ?kc ?kx ?ke ?kf ?kd ?ku ?_; (case k1 => k_asm); (case k2 => k_asm); (case k3 => k_asm); (case k4 => k_asm); (case k5 => k_asm); (case kK => first | exact rfl | assumption); (case ka => k_mem); (case kb => k_mem); (case kc => k_mem); (case kx => with_reducible assumption); (case ke => repeat first | exact Mine.sub0 | exact Mine.subL | refine Mine.sub1 ?_ | refine Mine.subR ?_); (case kf => assumption); (case kd => ktr_room); (case ku => ktr_units));
  intro T' l' ys' mm' add' h' tk' hTa' hla' hab' hy' F' N'; (try dsimp only); (try k_sweep); (try k_fold)))
local macro_rules | `(tactic| walk_at "subscriptTail Name Slice ref ref") => `(tactic| (
  k_here;
  (with_reducible show wpAny _ _ (subscriptTail _ (PySem.Expr.Slice _ _ none _) (Value.ref _) (Value.ref _)) _ _ _);
  k_dflt (refine' Mine.slice_first3 ?F ?N ?l ?_ ?s ?t; (case F => k_asm); (case N => k_asm); (case l => k_mem); (case s => with_unfolding_all rfl); (case t => kmk_pure));
  intro D' h' F' N' l1; (try k_lt l1); (try k_sweep)))
local macro_rules | `(tactic| walk_at "binaryOp Add ref ref") => `(tactic| (
  k_here;
  k_dflt (refine' Mine.tup_add ?k1 ?k2 ?k3 ?k4 ?k5 ?k6 ?k7 ?k8 ?k9 ?_; (case k1 => k_asm); (case k2 => k_asm); (case k3 => k_mem); (case k4 => k_mem); (case k5 => exact rfl); (case k6 => exact rfl); (case k7 => exact List.cons_ne_nil _ _); (case k8 => exact List.cons_ne_nil _ _); (case k9 => exact Nat.le_of_ble_eq_true rfl); k_whole);
  intro D' h' F' N' l1; (try dsimp only [List.cons_append, List.nil_append] at N'); (try k_lt l1); (try k_sweep)))
local macro_rules | `(tactic| walk_at "compareOp NotEq ref ref") => `(tactic| (
  k_here;
  k_dflt (refine' Mine.dat_same ?kN (Mine.toldD_in ?ka ?kb ?kc ?kd) (Mine.toldD_in ?ke ?kf ?kg ?kh) ?ki ?kj ?ku ?_; (case kN => k_asm); (case ka => k_mem); (case kb => k_mem); (case kc => assumption); (case kd => repeat first | exact Mine.sub0 | exact Mine.subL | refine Mine.sub1 ?_ | refine Mine.subR ?_); (case ke => k_mem); (case kf => k_mem); (case kg => assumption); (case kh => repeat first | exact Mine.sub0 | exact Mine.subL | refine Mine.sub1 ?_ | refine Mine.subR ?_); (case ki => exact rfl); (case kj => exact Mine.toldD_ok (by assumption)); (case ku => ke_room))))
local macro_rules | `(tactic| walk_at "eval ListComp") => `(tactic| (
  k_here;
  (rename ∀ (i : Nat) (x y : Value), _ → _ → Mine.Other _ x y => ne8');
  k_dflt (refine' Mine.zip_none ?F ?c1 ?c2 ?c3 ?c4 ?c5 ?c6 ?c7 ?c8 ?c9 ?_ ?c10; (case F => k_asm); (case c1 => rfl); (case c2 => decide); (case c3 => rfl); (case c4 => decide); (case c5 => rfl); (case c6 => rfl); (case c7 => first | decide | decide +kernel); (case c8 => first | decide | decide +kernel); (case c9 => first | decide | decide +kernel); (case c10 => (intro _; rfl)))))
local macro_rules | `(tactic| walk_at "call type:zip") => `(tactic| (
  k_here;
  (rename ∀ (i : Nat) (x y : Value), _ → _ → Mine.Other _ x y => ne');
  k_dflt (refine' Mine.zip_src ?hh ?F ?N ?h1 ?h2 ne' ?_; (case hh => exact rfl); (case F => k_asm); (case N => k_asm); (case h1 => k_mem); (case h2 => k_mem));
  intro D' h' tk' F' N' l1; (try k_lt l1); (try k_sweep)))
local macro_rules | `(tactic| walk_at "subscriptTail Name Constant ref int") => `(tactic| (k_here; (rename Mine.NowGust => now9'); (first
  | ((with_reducible show wpAny _ _ (subscriptTail _ _ (Value.ref _) (Value.int 0 _)) _ _ _); (with_unfolding_all refine Mine.vane_get0 (by with_reducible assumption) (by with_reducible assumption) ?_))
  | ((with_reducible show wpAny _ _ (subscriptTail _ _ (Value.ref _) (Value.int 1 _)) _ _ _); (with_unfolding_all refine Mine.vane_get1 (by with_reducible assumption) (by with_reducible assumption) ?_)))))
local macro_rules | `(tactic| walk_at "setItem ref int int") => `(tactic| (k_here; (rename Mine.NowGust => now9'); (first
  | ((with_reducible show wpAny _ _ (setItem (Value.ref _) (Value.int 0 _) (Value.int _ _)) _ _ _); (refine Mine.vane_set0 (by with_reducible assumption) (by with_reducible assumption) (by with_reducible assumption) ?_))
  | ((with_reducible show wpAny _ _ (setItem (Value.ref _) (Value.int 1 _) (Value.int _ _)) _ _ _); (refine Mine.vane_set1 (by with_reducible assumption) (by with_reducible assumption) (by with_reducible assumption) ?_))); intro h' F' N' U'; (try k_sweep)))
local macro_rules | `(tactic| walk_at "eval ListComp") => `(tactic| (
  k_here; (rename Mine.NowTold => now9');
  k_dflt (refine LCg.ListComp_U (F₀ := by k_asm) (by first | rfl | with_unfolding_all rfl) (by decide) (by rfl) (by decide) (by rfl) ?_)))
local macro_rules | `(tactic| walk_at "CompSrc") => `(tactic| (
  k_here; (rename Mine.NowTold => now9');
  (rename Mine.All2 (Mine.CompIn _ _) _ _ => src9');
  k_dflt (refine LCg.CompSrc.ledger (by rfl) (by k_asm) (by k_asm) (by k_mem) (by assumption) ?_);
  intro g';
  k_dflt (refine Mine.told_rest src9' (by k_mem) ?_ ?_)))
local macro_rules | `(tactic| walk_at "TurnEnd") => `(tactic| (
  (rename Mine.NowTold => now9');
  k_dflt (refine Mine.TurnEnd.intro [(_, _)] (by k_asm) (by k_asm) (Mine.Above.cons (by k_asm) Mine.Above.nil) (Mine.row_in (List.Mem.head _)))))
local macro_rules | `(tactic| walk_at "compareOp In str ref") => `(tactic| (
  k_here; (rename Mine.NowTurned => now9');
  (with_reducible show wpAny _ _ (compareOp CmpOp.In (Value.str _ _) (Value.ref 116)) _ _ _);
  (with_unfolding_all refine Mine.in_swap (vs := [_, _, _, _]) (Fr.tup (by k_asm) (tupK (by k_asm) (by k_is))) (by repeat constructor) (by assumption) ?_)))
local macro_rules | `(tactic| walk_at "pyIter ref") => `(tactic| (
  k_here; (rename Mine.NowTurned => now9');
  (rename Mine.All2 (Mine.CompIn _ _) _ _ => src9');
  k_dflt (refine Mine.turned_iter (lst := _) (fr := _) (by rfl) (by k_asm) (by k_asm) (by k_all) (by k_mem) src9' (by assumption) (by rfl) (by rfl) (by rfl) ?_ ?_)))
local macro_rules | `(tactic| walk_at "call ref") => `(tactic| (
  k_here; (rename Mine.NowTurned => now9');
  (with_reducible show wpAny _ _ (PySem.call (Value.ref 45) [Value.int _ _, Value.int _ _, Value.int _ _, Value.int _ _]) _ _ _);
  (rename Mine.CompAll _ _ _ _ _ _ => hC');
  k_dflt (refine' Mine.comp_use hC' ?k1 ?k2 ?k3 ?k4 ?k5 ?kK ?kd ?ku ?_; (case k1 => k_asm); (case k2 => k_asm); (case k3 => k_asm); (case k4 => k_asm); (case k5 => k_asm); (case kK => first | exact rfl | assumption); (case kd => ktr_room); (case ku => ktr_units));
  intro X' D' k1' k2' k3' k4' h' tk' l1 l2 F' N'; (try simp only [AllLt, and_true] at l1); (try k_lt2 l2); (try dsimp only); (try k_sweep); (try k_fold)))
local macro_rules | `(tactic| walk_at "call ref") => `(tactic| (
  k_here; (rename Mine.NowTurned => now9');
  (with_reducible show wpAny _ _ (PySem.call (Value.ref 111) [Value.str _ _, Value.int _ _, Value.int _ _, Value.int _ _, Value.ref _, Value.int _ _]) _ _ _);
  (rename Mine.FrameAll _ _ _ _ _ _ => hF');
  k_dflt (refine' Mine.frame_use hF' ?k1 ?k2 ?k3 ?k4 ?k5 ?kK ?kd ?ku ?_; (case k1 => k_asm); (case k2 => k_asm); (case k3 => k_asm); (case k4 => k_asm); (case k5 => k_asm); (case kK => first | exact rfl | assumption); (case kd => ktr_room); (case ku => ktr_units));
  intro X' D' k1' k2' k3' k4' k5' k6' h' tk' l1 l2 F' N'; (try simp only [AllLt, and_true] at l1); (try k_lt2 l2); (try dsimp only); (try k_sweep); (try k_fold)))
local macro_rules | `(tactic| walk_at "TurnedPost") => `(tactic| (
  (rename Mine.NowTurned => now9');
  k_dflt (refine' Mine.TurnedPost.intro ?F ?N ?a ?b ?c ?d ?e ?f ?g ?i ?j ?k; (case F => k_asm); (case N => k_asm); (case a => exact rfl); (case b => exact rfl); (case c => exact rfl); (case f => k_mem); (case d => k_mem); (case e => k_mem); (case g => repeat first | exact Mine.sub0 | refine Mine.sub1 ?_); (case i => (refine Mine.nlt ?_; omega)); (case j => first | assumption | exact And.right (by assumption) | exact And.right (And.right (by assumption)) | exact And.right (And.right (And.right (by assumption)))); (case k => assumption))))
set_option maxHeartbeats 40000000 in
theorem PySem.Challenge.cw_xm0810_01_holds : PySem.Challenge.rw_xm0810_01.Holds := by
  w_on
  o_law
  k_head
  (case hw => w_witness2)
  w_strict (
    k_fill
    intro w s₀ s₁ mg mb G Y fa o pm cd doc dV kV ho hd hcd hD hmg hg args vals as hpre hlay hrd hwl hlo
    have KX := kIn_of Y
    refine Mine.vane_all (prog := PySem.Challenge.rw_xm0810_01.row.prog) (f := 130) G KX ?cV (fun hV => ?kV9)
    case cV =>
      clear hlo hwl hrd hlay hpre hg hmg hD hcd hd ho KX Y G as vals args kV dV doc cd pm o fa mb mg s₁ s₀
      intro mean mg mb
      unfold Mine.VaneTells
      intro dp un gd cn cs x ccd cl outer A₀ base h₀ L m news s l vs ns Q E B F X N T hk hl hi hfit hd hu hret
      refine wpAny_call ?_
      k_dflt cell_enter
      k_steps
      all_goals (try dsimp only)
      all_goals (refine hret _ _ _ _ _ _ _ ?_ ?_ ?_ ?_ (by assumption) (by assumption))
      all_goals (try dsimp only)
      all_goals first | (with_reducible assumption) | (with_reducible exact Mine.rest_nn) | (with_reducible exact Mine.rest_lt) | omega | decide
    case kV9 =>
    refine Mine.gust_all (prog := PySem.Challenge.rw_xm0810_01.row.prog) (f := 137) G KX ?cG (fun hG => ?kG9)
    case cG =>
      clear hlo hwl hrd hlay hpre hg hmg hD hcd hd ho hV KX Y G as vals args kV dV doc cd pm o fa mb mg s₁ s₀
      intro mean mg mb
      have now : Mine.NowGust := ⟨⟩
      unfold Mine.GustTells
      intro dp un gd cn cs x ccd cl outer A₀ base h₀ L m D g s a b many ta tb tk n Q E B F X N U T hk ha hb hb1 hm hm1 hd hu hret
      refine wpAny_call ?_
      k_dflt cell_enter
      k_steps
      all_goals (try dsimp only)
      all_goals (refine hret _ _ _ _ _ _ _ _ ?_ ?_ ?_ ?_ ?_ (by assumption) (by assumption))
      all_goals (try dsimp only)
      all_goals first | (with_reducible assumption) | (with_reducible exact Mine.nn_fdiv ha hm) | (with_reducible exact Mine.nn_fmod hm) | (with_reducible exact Mine.lt_fmod hm) | (with_reducible exact Mine.nn_fmod (by decide)) | exact (Int.lt_trans (Mine.lt_fmod (by decide)) (by decide))
    case kG9 =>
    refine Mine.comp_all (prog := PySem.Challenge.rw_xm0810_01.row.prog) (f := 45) G KX ?cC (fun hC => ?kC9)
    case cC =>
      clear hlo hwl hrd hlay hpre hg hmg hD hcd hd ho hV hG KX Y G as vals args kV dV doc cd pm o fa mb mg s₁ s₀
      intro mean mg mb
      unfold Mine.CompTells'
      intro dp un gd cn cs x ccd cl outer A₀ base h₀ L m news s i a d q ti ta td tq Q E B F X N T hk hd hu hret
      k_dflt (refine' call_cls ?k1 ?k2 ?k3 ?k4 ?k5 ?k6 ?_; (case k1 => k_asm); (case k2 => k_asm); (case k3 => k_asm); (case k4 => k_is); (case k5 => k_is); (case k6 => k_is); k_whole; intro x' d' h' F' N' l1 l2; (have l3 := allLt_of l1); clear l1; (try k_lt2 l2); (try k_sweep); cell_enter)
      k_steps
      all_goals (try dsimp only)
      all_goals exact hret _ _ _ _ _ _ _ _ l3 l2 (by assumption) (by assumption)
    case kC9 =>
    refine Mine.frame_all (prog := PySem.Challenge.rw_xm0810_01.row.prog) (f := 111) G KX ?cF (fun hF => ?kF9)
    case cF =>
      clear hlo hwl hrd hlay hpre hg hmg hD hcd hd ho hV hG hC KX Y G as vals args kV dV doc cd pm o fa mb mg s₁ s₀
      intro mean mg mb
      unfold Mine.FrameTells
      intro dp un gd cn cs x ccd cl outer A₀ base h₀ L m news s kd pr hi wd n c tk tp th tw tn Q E B F X N T hk hd hu hret
      k_dflt (refine' call_cls ?k1 ?k2 ?k3 ?k4 ?k5 ?k6 ?_; (case k1 => k_asm); (case k2 => k_asm); (case k3 => k_asm); (case k4 => k_is); (case k5 => k_is); (case k6 => k_is); k_whole; intro x' d' h' F' N' l1 l2; (have l3 := allLt_of l1); clear l1; (try k_lt2 l2); (try k_sweep); cell_enter)
      k_steps
      all_goals (try dsimp only)
      all_goals exact hret _ _ _ _ _ _ _ _ _ _ l3 l2 (by assumption) (by assumption)
    case kF9 =>
    refine Mine.told_all (prog := PySem.Challenge.rw_xm0810_01.row.prog) (f := 142) G KX ?cT (fun hT => ?kT9)
    case cT =>
      clear hlo hwl hrd hlay hpre hg hmg hD hcd hd ho hV hG hC hF KX Y G as vals args kV dV doc cd pm o fa mb mg s₁ s₀
      intro mean mg mb
      have now : Mine.NowTold := ⟨⟩
      unfold Mine.ToldTells
      intro dp un gd cn cs x ccd cl outer A₀ base h₀ L m news s fr df c k1 k2 k3 k4 k5 k6 tk tp th tw tn kd pr hi wd n nn xs rs Q E B F X N T hk hfr hdf hc hall hsz hd hu hret
      refine wpAny_call ?_
      k_dflt cell_enter
      k_steps
      all_goals (try dsimp only)
      all_goals exact hret _ _ _ _ _ _ _ (Mine.lt_all (by assumption)) (Mine.off1_all (by assumption)) (by assumption) (by assumption) (by assumption) (by assumption)
    case kT9 =>
    refine Mine.turned_all (prog := PySem.Challenge.rw_xm0810_01.row.prog) (f := 123) G KX ?cU (fun hU => ?kU9)
    case cU =>
      clear hlo hwl hrd hlay hpre hg hmg hD hcd hd ho hV hG hT KX Y G as vals args kV dV doc cd pm o fa mb mg s₁ s₀
      intro mean mg mb
      have now : Mine.NowTurned := ⟨⟩
      unfold Mine.TurnedTells
      intro dp un gd cn cs x ccd cl outer A₀ base h₀ L m news s fr df c k1 k2 k3 k4 k5 k6 tk tp th tw tn tg kd g pr hi wd n nn xs rs b Q E B F X N T hk hfr hdf hc hall hsz hg hh hd hu hret
      cases b with
      | true =>
        refine wpAny_call ?_
        k_dflt cell_enter
        k_steps
        all_goals (try dsimp only)
        all_goals exact hret _ _ _ _ _ _ _ _ _ _ _ _ _ _ _ _ (by assumption) (by assumption) (by assumption) (Mine.news_drop2 (by assumption))
      | false =>
        refine wpAny_call ?_
        k_dflt cell_enter
        k_steps
        all_goals (try dsimp only)
        all_goals exact hret _ _ _ _ _ _ _ _ _ _ _ _ _ _ _ _ (by assumption) (by assumption) (by assumption) (Mine.news_drop2 (by assumption))
    case kU9 =>
    k_behind G ho hd hcd hD hmg hpre hlay hrd hwl hlo cd
    all_goals try k_fold
    refine Mine.stage3 (Mine.Mid1 s₁.heap s₁.heap.objs.size s₁) ?sA1 ?sB1
    case sA1 =>
      k_steps
      all_goals (try dsimp only)
      all_goals k_dflt (refine' Mine.mid1 ?Fq ?Nq ?m3q ?hdq ?m1q ?m2q ?hd2q ?l1q ?l2q ?hvq ?hkq; (case Fq => k_asm); (case Nq => k_asm); (case m3q => k_mem); (case hdq => assumption); (case m1q => k_mem); (case m2q => k_mem); (case hd2q => assumption); (case l1q => omega); (case l2q => omega); (case hvq => assumption); (case hkq => assumption))
    case sB1 =>
    refine Mine.mid1_on ?_
    intro h tk m₀ Dv a ta b tb oc o2 kd tkd wd twd hi thi sd tsd v2 F1 N1 hd2 hoc l1 l2 hv hk
    try k_fold
    with_reducible refine Mine.stage (Mine.Mid2 s₁.heap s₁.heap.objs.size s₁) ?sA2 ?sB2
    case sA2 =>
      k_steps
      all_goals (try dsimp only)
      all_goals k_dflt (refine' Mine.mid2 ?Fq ?Nq ?hd2q ?hdq ?l1q ?l2q ?hvq ?hkq ?o1q ?habq ?hyq ?hnq; (case Fq => k_asm); (case Nq => k_asm); (case hd2q => assumption); (case hdq => assumption); (case l1q => assumption); (case l2q => assumption); (case hvq => assumption); (case hkq => assumption); (case o1q => assumption); (case habq => assumption); (case hyq => assumption); (case hnq => assumption))
    case sB2 =>
    refine Mine.mid2_on ?_
    intro h tk m₀ Dv a ta b tb oc o2 kd tkd wd twd hi thi sd tsd R ys mm rs rest v2 F1 N1 hd2 hoc l1 l2 hv hk hn1 hn2 hc hR hy hn
    try k_fold
    with_reducible refine Mine.stage (Mine.Mid3 w s₁.heap s₁.heap.objs.size s₁) ?sA3 ?sB3
    case sA3 =>
      k_steps
      all_goals (try dsimp only)
      all_goals k_dflt (refine' Mine.mid3 ?Fq ?Nq ?hd2q ?hdq ?l1q ?l2q ?hvq ?hkq ?hn1q ?hn2q ?hcq ?hRq ?hyq ?hnq ?ldq ?lfq ?o1q ?abq ?hxq; (case Fq => k_asm); (case Nq => k_asm); (case hd2q => assumption); (case hdq => assumption); (case l1q => assumption); (case l2q => assumption); (case hvq => assumption); (case hkq => assumption); (case hn1q => assumption); (case hn2q => assumption); (case hcq => assumption); (case hRq => assumption); (case hyq => assumption); (case hnq => assumption); (case ldq => assumption); (case lfq => assumption); (case o1q => assumption); (case abq => assumption); (case hxq => assumption))
    case sB3 =>
    refine Mine.mid3_on ?_
    intro h tk m₀ Dv a ta b tb oc o2 kd tkd wd twd hi thi sd tsd R ys mm rs rest fr df lc k1 k2 k3 k4 k5 k6 tp pr xs nn v2 F1 N1 hd2 hoc l1 l2 hv hk hn1 hn2 hc hR hy hn hfr hdf hlc hx
    try k_fold
    with_reducible refine Mine.stage (Mine.Mid4 w s₁.heap s₁.heap.objs.size s₁) ?sA4 ?sB4
    case sA4 =>
      k_steps
      all_goals (try dsimp only)
      all_goals k_dflt (refine' Mine.mid4 ?Fq ?Nq ?hTq ?hlq ?abq ?hzq ?hd2q ?hgq ?hkq ?hn2q ?hRq ?hyq ?hnq ?hfrq ?hdfq ?hlcq ?hxq; (case Fq => k_asm); (case Nq => k_asm); (case hTq => assumption); (case hlq => assumption); (case abq => assumption); (case hzq => assumption); (case hd2q => assumption); (case hgq => assumption); (case hkq => assumption); (case hn2q => assumption); (case hRq => assumption); (case hyq => assumption); (case hnq => assumption); (case hfrq => assumption); (case hdfq => assumption); (case hlcq => assumption); (case hxq => assumption))
    case sB4 =>
    refine Mine.mid4_on ?_
    intro h tk m₀ o2 rest g tg kd tkd wd twd hi thi sd tsd R ys mm rs fr df lc k1 k2 k3 k4 k5 k6 tp pr xs nn T0 l0 zs ml v2 F1 N1 hd2 hn2 hg hH
    try k_fold
    with_reducible refine Mine.stage2 (Mine.Mid6 w s₁.heap s₁.heap.objs.size s₁) ?sA5 ?sB5
    case sA5 =>
      k_steps
      all_goals (try dsimp only)
      all_goals k_dflt (refine' Mine.mid6 ?Fq ?Nq ?hdq ?m2q ?Hq ?subq; (case Fq => k_asm); (case Nq => k_asm); (case hdq => assumption); (case m2q => k_mem); (case Hq => assumption); (case subq => repeat first | exact Mine.sub0 | refine Mine.sub1 ?_))
    case sB5 =>
    refine Mine.mid6_on ?_
    intro h tk m₀ o2 rest news b e te g tg kd tkd wd twd hi thi sd tsd R ys mm rs fr df lc k1 k2 k3 k4 k5 k6 tp pr xs nn T0 l0 zs ml F1 N1 m2 hd2 hg hsub hH
    try k_fold
    with_reducible refine Mine.stage (Mine.Mid7 w s₁.heap s₁.heap.objs.size s₁) ?sA7 ?sB7
    case sA7 =>
      have hfr := hsub _ hH.hfr
      have hdf := hsub _ hH.hdf
      have hlc := hsub _ hH.hlc
      have hx := hH.hcomps
      have hfew := hH.hfew
      k_steps
      all_goals (try dsimp only)
      all_goals k_dflt (refine' Mine.mid7 ?Fq ?Nq ?abq ?hvq ?hdq ?m2q ?Hq ?subq; (case Fq => k_asm); (case Nq => k_asm); (case abq => assumption); (case hvq => assumption); (case hdq => assumption); (case m2q => assumption); (case Hq => assumption); (case subq => assumption))
    case sB7 =>
    refine Mine.mid7_on ?_
    intro h tk m₀ o2 rest news b e te g tg kd tkd wd twd hi thi sd tsd R ys mm rs fr df lc k1 k2 k3 k4 k5 k6 tp pr xs nn T0 l0 zs ml X0 D0 lst0 j1 j2 j3 j4 j5 j6 uh uw vs mv F1 N1 m2 hd2 hsub hH hU1
    try k_fold
    with_reducible refine Mine.stage (Mine.Mid8 w s₁.heap s₁.heap.objs.size s₁) ?sA8 ?sB8
    case sA8 =>
      cases b with
      | true =>
        k_steps
        all_goals (try dsimp only)
        all_goals k_dflt (refine' Mine.mid8 (b := true) ?Fq ?Nq ?hdq ?m2q ?subq ?Hq ?Uq; (case Fq => k_asm); (case Nq => k_asm); (case hdq => assumption); (case m2q => assumption); (case subq => assumption); (case Hq => assumption); (case Uq => assumption))
      | false =>
        k_steps
        all_goals (try dsimp only)
        all_goals k_dflt (refine' Mine.mid8 (b := false) ?Fq ?Nq ?hdq ?m2q ?subq ?Hq ?Uq; (case Fq => k_asm); (case Nq => k_asm); (case hdq => assumption); (case m2q => assumption); (case subq => assumption); (case Hq => assumption); (case Uq => assumption))
    case sB8 =>
    refine Mine.mid8_on ?_
    intro h tk m₀ o2 rest news b e te g tg kd tkd wd twd hi thi sd tsd R ys mm rs fr df lc k1 k2 k3 k4 k5 k6 tp pr xs nn T0 l0 zs ml X0 D0 lst0 j1 j2 j3 j4 j5 j6 uh uw vs mv S0 t1 t2 F1 N1 m2 hd2 hsub hH hU1 hS
    try k_fold
    with_reducible refine Mine.stage (Mine.Mid9 w s₁.heap s₁.heap.objs.size s₁) ?sA9 ?sB9
    case sA9 =>
      have hrow := hsub _ hH.hrow
      have hrows := hH.hrows
      have hfew := hH.hfew
      cases b with
      | true =>
        have dueT : Mine.DueNow true := ⟨⟩
        k_steps
        all_goals (try dsimp only)
        all_goals k_dflt (refine' Mine.mid9 (b := true) ?Fq ?Nq ?hwq ?subq ?Hq ?Uq ?hSq; (case Fq => k_asm); (case Nq => k_asm); (case hwq => assumption); (case subq => assumption); (case Hq => assumption); (case Uq => assumption); (case hSq => assumption))
      | false =>
        have dueT : Mine.DueNow false := ⟨⟩
        k_steps
        all_goals (try dsimp only)
        all_goals k_dflt (refine' Mine.mid9 (b := false) ?Fq ?Nq ?hwq ?subq ?Hq ?Uq ?hSq; (case Fq => k_asm); (case Nq => k_asm); (case hwq => assumption); (case subq => assumption); (case Hq => assumption); (case Uq => assumption); (case hSq => assumption))
    case sB9 =>
    refine Mine.mid9_on ?_
    intro h tk m₀ rest news b e te g tg kd tkd wd twd hi thi sd tsd R ys mm rs fr df lc k1 k2 k3 k4 k5 k6 tp pr xs nn T0 l0 zs ml X0 D0 lst0 j1 j2 j3 j4 j5 j6 uh uw vs mv S0 t1 t2 R2 ws mw F1 N1 hsub hH hU1 hS hR2 hw
    try k_fold
    with_reducible refine Mine.stage (Mine.Mid9 w s₁.heap s₁.heap.objs.size s₁) ?sA10 ?sB10
    case sA10 =>
      have a1 := hsub _ hH.hfr
      have a2 := hsub _ hH.hdf
      have a3 := hsub _ hH.hlc
      have a4 := hH.hcomps.mono fun _ _ z => z.mono hsub
      have a5 := hH.hfew
      have a6 := hsub _ hH.htold
      have a7 := hU1.hX
      have a8 := hU1.hD
      have a9 := hU1.hl
      have a10 := hU1.hv
      have a11 : (rs.map (Mine.turnR b)).length ≤ 4 := by rw [List.length_map]; exact hH.hfew
      have a12 := hH.hkd
      have a13 := hsub _ hH.hlist
      have a14 := hH.htolds.mono fun _ _ z => z.mono hsub
      k_steps
      all_goals (try dsimp only)
      all_goals k_dflt (refine' Mine.mid9_more ?Fq ?Nq ?sq ?subq ?Hq ?Uq ?hSq ?hRq ?hwq; (case Fq => k_asm); (case Nq => k_asm); (case subq => exact hsub); (case sq => repeat first | exact Mine.sub0 | refine Mine.sub1 ?_ | refine Mine.subR ?_); (case Hq => exact hH); (case Uq => exact hU1); (case hSq => exact hS); (case hRq => exact hR2); (case hwq => exact hw))
    case sB10 =>
    refine Mine.mid9_on ?_
    intro h tk m₀ rest news b e te g tg kd tkd wd twd hi thi sd tsd R ys mm rs fr df lc k1 k2 k3 k4 k5 k6 tp pr xs nn T0 l0 zs ml X0 D0 lst0 j1 j2 j3 j4 j5 j6 uh uw vs mv S0 t1 t2 R2 ws mw F1 N1 hsub hH hU1 hS hR2 hw
    try k_fold
    have a1 := hsub _ hH.hfr
    have a2 := hsub _ hH.hdf
    have a3 := hsub _ hH.hlc
    have a7 := hU1.hX
    have a8 := hU1.hD
    have a9 := hU1.hl
    have a15 := Mine.others hU1 hH.hcomps hsub
    k_steps
    all_goals done)
