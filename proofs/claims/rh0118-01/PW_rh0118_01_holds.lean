import PyProof.Rows.All
import Wide.All
import OpenK.AllK
import Wide.FinOn
import PySem.Challenge.RW_rh0118_01
open PySem PySem.W PyProof.Rows PySem.Calls
set_option Elab.async false
set_option rowWalk.seconds 0
namespace Mine
section
local macro_rules | `(tactic| refine $_) => `(tactic| assumption)
set_option maxRecDepth 100000 in
set_option maxHeartbeats 8000000 in
/-- k_head lays down the written part (pre.heap_1) and the view (pre.view_1); its own goal is met by the hypothesis -/
theorem pre (h : PySem.Challenge.rw_rh0118_01.row.Holds) : PySem.Challenge.rw_rh0118_01.row.Holds := by k_head
end
local macro_rules | `(tactic| walk_at "call ref") => `(tactic| k_extra "mine call")
section
/-- what a call of the def at f, with the arguments vs, over any ledger news, does -/
def Fn (w : World) (mean : ExcName → Option Value) (mg mb : Str → Option Value) (f : Addr) (dep : Nat) (vs : List Value) (news : List (Addr × Obj)) (Post : List (Addr × Obj) → Value → Prop) : Prop :=
  ∀ (dp un : Nat) (gd : Option (List Code)) (cn : Str) (cs : Scope) (a : Addr) (ccd : Value) (cl : List (Str × Addr)) (outer : List Env) (A₀ : Around) (base h₀ : Heap) (L : Addr) (m : Str → Option Value) (s : Shared) (Q E : Value → Shared → Prop),
    Below A₀ base outer h₀ → Fr h₀ L s.heap m → (pre.heap_1 w.params).In h₀ → News h₀ L s.heap news → Top pre.view_1 (looseW pre.view_1 []) mean mg mb h₀ → cs.kind = .function →
    dp + dep < recursionLimit → un + 8 * dep < cLine →
    (∀ r tl h' tk', Fr h₀ L h' m → News h₀ L h' (tl ++ news) → Post (tl ++ news) r → Q r { s with heap := h', toks := tk' }) →
    wpAny (model PySem.Challenge.rw_rh0118_01.row.prog w) (ktrTop dp un gd cn cs L a ccd cl outer) (call (.ref f) vs) Q E s

abbrev pairObj (a b : Int) (t1 t2 : Tok) (c : Nat) : Obj := { cls := .type "tuple", data := .seq #[.int a t1, .int b t2] c }
abbrev refsObj (a b : Addr) (c : Nat) : Obj := { cls := .type "tuple", data := .seq #[.ref a, .ref b] c }
/-- a pair of ints stands at D: made by the call, or it is NOUGHT -/
def PairIn (news : List (Addr × Obj)) (D : Addr) (a b : Int) : Prop := (∃ t1 t2 c, (D, pairObj a b t1 t2 c) ∈ news) ∨ (D = 47 ∧ a = 0 ∧ b = 0)
theorem PairIn.mono {n n' : List (Addr × Obj)} {D : Addr} {a b : Int} (h : PairIn n D a b) (hs : ∀ p ∈ n, p ∈ n') : PairIn n' D a b := by
  rcases h with ⟨t1, t2, c, h⟩ | h
  · exact .inl ⟨t1, t2, c, hs _ h⟩
  · exact .inr h
theorem PairIn.made {n : List (Addr × Obj)} {D : Addr} {a b : Int} {t1 t2 : Tok} {c : Nat} (h : (D, pairObj a b t1 t2 c) ∈ n) : PairIn n D a b := .inl ⟨t1, t2, c, h⟩

def PInt (x : Int) (_ : List (Addr × Obj)) (r : Value) : Prop := ∃ t, r = .int x t
def PIntR (R : Int → Prop) (_ : List (Addr × Obj)) (r : Value) : Prop := ∃ x t, r = .int x t ∧ R x
def PBool (x : Bool) (_ : List (Addr × Obj)) (r : Value) : Prop := r = .bool x
def PNone (_ : List (Addr × Obj)) (r : Value) : Prop := r = .none
def PPair (R : Int → Int → Prop) (news : List (Addr × Obj)) (r : Value) : Prop := ∃ D a b, r = .ref D ∧ PairIn news D a b ∧ R a b
def PCpx (R : Int → Int → Int → Int → Prop) (news : List (Addr × Obj)) (r : Value) : Prop := ∃ Z D1 D2 k a b c d, r = .ref Z ∧ (Z, refsObj D1 D2 k) ∈ news ∧ PairIn news D1 a b ∧ PairIn news D2 c d ∧ R a b c d

section
variable {w : World} {mean : ExcName → Option Value} {mg mb : Str → Option Value} {f : Addr} {dep : Nat} {vs : List Value} {news news' : List (Addr × Obj)}
variable {dp un : Nat} {gd : Option (List Code)} {cn : Str} {cs : Scope} {a : Addr} {ccd : Value} {cl : List (Str × Addr)} {outer : List Env} {A₀ : Around} {base h₀ h : Heap} {L D : Addr} {m : Str → Option Value} {s : Shared} {Q E : Value → Shared → Prop}
variable {x y : Int} {t : Tok} {tk : Nat} {R : Int → Int → Prop}

abbrev Ret (h₀ : Heap) (L : Addr) (m : Str → Option Value) (news : List (Addr × Obj)) (s : Shared) (Q : Value → Shared → Prop) (Post : List (Addr × Obj) → Value → Prop) : Prop :=
  ∀ (r : Value) (tl : List (Addr × Obj)) (h' : Heap) (tk' : Nat), Fr h₀ L h' m → News h₀ L h' (tl ++ news) → Post (tl ++ news) r → Q r { s with heap := h', toks := tk' }

theorem fn_use {Post : List (Addr × Obj) → Value → Prop} (C : Fn w mean mg mb f dep vs news Post) (B : Below A₀ base outer h₀) (F : Fr h₀ L s.heap m) (X : (pre.heap_1 w.params).In h₀) (N : News h₀ L s.heap news) (T : Top pre.view_1 (looseW pre.view_1 []) mean mg mb h₀) (hk : cs.kind = .function)
    (hdp : dp + dep < recursionLimit) (hu : un + 8 * dep < cLine) (hr : Ret h₀ L m news s Q Post) :
    wpAny (model PySem.Challenge.rw_rh0118_01.row.prog w) (ktrTop dp un gd cn cs L a ccd cl outer) (call (.ref f) vs) Q E s := C dp un gd cn cs a ccd cl outer A₀ base h₀ L m s Q E B F X N T hk hdp hu hr

theorem use_int (C : Fn w mean mg mb f dep vs news (PInt x)) (B : Below A₀ base outer h₀) (F : Fr h₀ L s.heap m) (X : (pre.heap_1 w.params).In h₀) (N : News h₀ L s.heap news) (T : Top pre.view_1 (looseW pre.view_1 []) mean mg mb h₀) (hk : cs.kind = .function)
    (hdp : dp + dep < recursionLimit) (hu : un + 8 * dep < cLine) (hr : ∀ t h' tk', Fr h₀ L h' m → News h₀ L h' news → Q (.int x t) { s with heap := h', toks := tk' }) :
    wpAny (model PySem.Challenge.rw_rh0118_01.row.prog w) (ktrTop dp un gd cn cs L a ccd cl outer) (call (.ref f) vs) Q E s :=
  fn_use C B F X N T hk hdp hu (by
    rintro r tl h' tk' F' N' ⟨t, rfl⟩
    exact hr _ _ _ F' fun p hp => N' p (List.mem_append_right _ hp))
theorem use_intR {R : Int → Prop} (C : Fn w mean mg mb f dep vs news (PIntR R)) (B : Below A₀ base outer h₀) (F : Fr h₀ L s.heap m) (X : (pre.heap_1 w.params).In h₀) (N : News h₀ L s.heap news) (T : Top pre.view_1 (looseW pre.view_1 []) mean mg mb h₀) (hk : cs.kind = .function)
    (hdp : dp + dep < recursionLimit) (hu : un + 8 * dep < cLine) (hr : ∀ x t h' tk', Fr h₀ L h' m → News h₀ L h' news → R x → Q (.int x t) { s with heap := h', toks := tk' }) :
    wpAny (model PySem.Challenge.rw_rh0118_01.row.prog w) (ktrTop dp un gd cn cs L a ccd cl outer) (call (.ref f) vs) Q E s :=
  fn_use C B F X N T hk hdp hu (by
    rintro r tl h' tk' F' N' ⟨x, t, rfl, hx⟩
    exact hr _ _ _ _ F' (fun p hp => N' p (List.mem_append_right _ hp)) hx)
theorem use_bool {x : Bool} (C : Fn w mean mg mb f dep vs news (PBool x)) (B : Below A₀ base outer h₀) (F : Fr h₀ L s.heap m) (X : (pre.heap_1 w.params).In h₀) (N : News h₀ L s.heap news) (T : Top pre.view_1 (looseW pre.view_1 []) mean mg mb h₀) (hk : cs.kind = .function)
    (hdp : dp + dep < recursionLimit) (hu : un + 8 * dep < cLine) (hr : ∀ h' tk', Fr h₀ L h' m → News h₀ L h' news → Q (.bool x) { s with heap := h', toks := tk' }) :
    wpAny (model PySem.Challenge.rw_rh0118_01.row.prog w) (ktrTop dp un gd cn cs L a ccd cl outer) (call (.ref f) vs) Q E s :=
  fn_use C B F X N T hk hdp hu (by
    rintro r tl h' tk' F' N' rfl
    exact hr _ _ F' fun p hp => N' p (List.mem_append_right _ hp))
theorem use_none (C : Fn w mean mg mb f dep vs news PNone) (B : Below A₀ base outer h₀) (F : Fr h₀ L s.heap m) (X : (pre.heap_1 w.params).In h₀) (N : News h₀ L s.heap news) (T : Top pre.view_1 (looseW pre.view_1 []) mean mg mb h₀) (hk : cs.kind = .function)
    (hdp : dp + dep < recursionLimit) (hu : un + 8 * dep < cLine) (hr : ∀ h' tk', Fr h₀ L h' m → News h₀ L h' news → Q .none { s with heap := h', toks := tk' }) :
    wpAny (model PySem.Challenge.rw_rh0118_01.row.prog w) (ktrTop dp un gd cn cs L a ccd cl outer) (call (.ref f) vs) Q E s :=
  fn_use C B F X N T hk hdp hu (by
    rintro r tl h' tk' F' N' rfl
    exact hr _ _ F' fun p hp => N' p (List.mem_append_right _ hp))
theorem use_pair (C : Fn w mean mg mb f dep vs news (PPair R)) (B : Below A₀ base outer h₀) (F : Fr h₀ L s.heap m) (X : (pre.heap_1 w.params).In h₀) (N : News h₀ L s.heap news) (T : Top pre.view_1 (looseW pre.view_1 []) mean mg mb h₀) (hk : cs.kind = .function)
    (hdp : dp + dep < recursionLimit) (hu : un + 8 * dep < cLine) (hr : ∀ D a b tl h' tk', Fr h₀ L h' m → News h₀ L h' (tl ++ news) → PairIn (tl ++ news) D a b → R a b → Q (.ref D) { s with heap := h', toks := tk' }) :
    wpAny (model PySem.Challenge.rw_rh0118_01.row.prog w) (ktrTop dp un gd cn cs L a ccd cl outer) (call (.ref f) vs) Q E s :=
  fn_use C B F X N T hk hdp hu (by
    rintro r tl h' tk' F' N' ⟨D, a, b, rfl, hp, hR⟩
    exact hr _ _ _ _ _ _ F' N' hp hR)
theorem use_cpx {R : Int → Int → Int → Int → Prop} (C : Fn w mean mg mb f dep vs news (PCpx R)) (B : Below A₀ base outer h₀) (F : Fr h₀ L s.heap m) (X : (pre.heap_1 w.params).In h₀) (N : News h₀ L s.heap news) (T : Top pre.view_1 (looseW pre.view_1 []) mean mg mb h₀) (hk : cs.kind = .function)
    (hdp : dp + dep < recursionLimit) (hu : un + 8 * dep < cLine) (hr : ∀ Z D1 D2 k a b c d tl h' tk', Fr h₀ L h' m → News h₀ L h' (tl ++ news) → (Z, refsObj D1 D2 k) ∈ tl ++ news → PairIn (tl ++ news) D1 a b → PairIn (tl ++ news) D2 c d → R a b c d → Q (.ref Z) { s with heap := h', toks := tk' }) :
    wpAny (model PySem.Challenge.rw_rh0118_01.row.prog w) (ktrTop dp un gd cn cs L a ccd cl outer) (call (.ref f) vs) Q E s :=
  fn_use C B F X N T hk hdp hu (by
    rintro r tl h' tk' F' N' ⟨Z, D1, D2, k, a, b, c, d, rfl, h1, h2, h3, hR⟩
    exact hr _ _ _ _ _ _ _ _ _ _ _ F' N' h1 h2 h3 hR)

theorem end_int (hret : Ret h₀ L m news s Q (PInt x)) (F : Fr h₀ L h m) (N : News h₀ L h news') (hs : ∀ p ∈ news, p ∈ news') (e : y = x) : Q (.int y t) { s with heap := h, toks := tk } :=
  hret _ [] _ _ F (fun p hp => N p (hs p hp)) ⟨t, by rw [e]⟩
theorem end_intR {R : Int → Prop} (hret : Ret h₀ L m news s Q (PIntR R)) (F : Fr h₀ L h m) (N : News h₀ L h news') (hs : ∀ p ∈ news, p ∈ news') (e : R y) : Q (.int y t) { s with heap := h, toks := tk } :=
  hret _ [] _ _ F (fun p hp => N p (hs p hp)) ⟨y, t, rfl, e⟩
theorem end_bool {x y : Bool} (hret : Ret h₀ L m news s Q (PBool x)) (F : Fr h₀ L h m) (N : News h₀ L h news') (hs : ∀ p ∈ news, p ∈ news') (e : y = x) : Q (.bool y) { s with heap := h, toks := tk } :=
  hret _ [] _ _ F (fun p hp => N p (hs p hp)) (by rw [e]; rfl)
theorem end_none (hret : Ret h₀ L m news s Q PNone) (F : Fr h₀ L h m) (N : News h₀ L h news') (hs : ∀ p ∈ news, p ∈ news') : Q .none { s with heap := h, toks := tk } :=
  hret _ [] _ _ F (fun p hp => N p (hs p hp)) rfl
theorem end_pair {a b : Int} (hret : Ret h₀ L m news s Q (PPair R)) (F : Fr h₀ L h m) (N : News h₀ L h news') (hs : ∀ p ∈ news, p ∈ news') (hp : PairIn news' D a b) (hR : R a b) : Q (.ref D) { s with heap := h, toks := tk } := by
  rcases hp with ⟨t1, t2, c, hp⟩ | hp
  · refine hret _ [(D, pairObj a b t1 t2 c)] _ _ F (fun p hq => ?_) ⟨D, a, b, rfl, .inl ⟨t1, t2, c, .head _⟩, hR⟩
    rcases List.mem_cons.mp hq with rfl | hq
    · exact N _ hp
    · exact N p (hs p hq)
  · exact hret _ [] _ _ F (fun p hq => N p (hs p hq)) ⟨D, a, b, rfl, .inr hp, hR⟩
theorem end_cpx {R : Int → Int → Int → Int → Prop} {Z D1 D2 : Addr} {k : Nat} {a b c d : Int} (hret : Ret h₀ L m news s Q (PCpx R)) (F : Fr h₀ L h m) (N : News h₀ L h news') (hs : ∀ p ∈ news, p ∈ news')
    (hz : (Z, refsObj D1 D2 k) ∈ news') (hp : PairIn news' D1 a b) (hq : PairIn news' D2 c d) (hR : R a b c d) : Q (.ref Z) { s with heap := h, toks := tk } :=
  hret _ news' _ _ F (fun p hq => (List.mem_append.mp hq).elim (fun h => N p h) fun h => N p (hs p h)) ⟨Z, D1, D2, k, a, b, c, d, rfl, List.mem_append_left _ hz, hp.mono (fun _ h => List.mem_append_left _ h), hq.mono (fun _ h => List.mem_append_left _ h), hR⟩

theorem sub_refl {X : List (Addr × Obj)} : ∀ p ∈ X, p ∈ X := fun _ h => h
theorem sub_cons {X A : List (Addr × Obj)} {c : Addr × Obj} (h : ∀ p ∈ X, p ∈ A) : ∀ p ∈ X, p ∈ c :: A := fun p q => .tail _ (h p q)
theorem sub_right {X A B : List (Addr × Obj)} (h : ∀ p ∈ X, p ∈ B) : ∀ p ∈ X, p ∈ A ++ B := fun p q => List.mem_append_right _ (h p q)
theorem sub_left {X A B : List (Addr × Obj)} (h : ∀ p ∈ X, p ∈ A) : ∀ p ∈ X, p ∈ A ++ B := fun p q => List.mem_append_left _ (h p q)

/-- NOUGHT as it stands -/
theorem nought_tup (X : (pre.heap_1 w.params).In h₀) : IsTup h₀ 47 #[.int 0 236, .int 0 237] := ⟨_, X 47 _ rfl, rfl, _, rfl⟩
theorem PairIn.tup {a b : Int} (hp : PairIn news D a b) (F : Fr h₀ L h m) (N : News h₀ L h news) (X : (pre.heap_1 w.params).In h₀) : ∃ t1 t2, IsTup h D #[.int a t1, .int b t2] := by
  rcases hp with ⟨t1, t2, c, hp⟩ | ⟨rfl, rfl, rfl⟩
  · exact ⟨t1, t2, _, (N _ hp).1, rfl, c, rfl⟩
  · obtain ⟨o, ho, hr⟩ := nought_tup (w := w) X
    exact ⟨_, _, o, F.keep _ _ ho, hr⟩
theorem pair_at0 {prog : Program} {A : Around} {value slice : PySem.Expr} {a b : Int} {u : Tok} (hp : PairIn news D a b) (F : Fr h₀ L s.heap m) (N : News h₀ L s.heap news) (X : (pre.heap_1 w.params).In h₀)
    (h : ∀ t, Q (.int a t) s) (hs : subscripted slice false (.ref D) (.int 0 u) = operate [.ref D, .int 0 u] (getItem (.ref D) (.int 0 u)) := by with_unfolding_all rfl) :
    wpAny (model prog w) A (subscriptTail value slice (.ref D) (.int 0 u)) Q E s := by
  obtain ⟨t1, t2, ht⟩ := hp.tup F N X
  exact item_tupleT (l := [.int a t1, .int b t2]) ht (by decide) (by decide) (j := 0) rfl rfl (h t1) hs
theorem pair_at1 {prog : Program} {A : Around} {value slice : PySem.Expr} {a b : Int} {u : Tok} (hp : PairIn news D a b) (F : Fr h₀ L s.heap m) (N : News h₀ L s.heap news) (X : (pre.heap_1 w.params).In h₀)
    (h : ∀ t, Q (.int b t) s) (hs : subscripted slice false (.ref D) (.int 1 u) = operate [.ref D, .int 1 u] (getItem (.ref D) (.int 1 u)) := by with_unfolding_all rfl) :
    wpAny (model prog w) A (subscriptTail value slice (.ref D) (.int 1 u)) Q E s := by
  obtain ⟨t1, t2, ht⟩ := hp.tup F N X
  exact item_tupleT (l := [.int a t1, .int b t2]) ht (by decide) (by decide) (j := 1) rfl rfl (h t2) hs
end

/-- small enough for every product and every division here -/
def Sm (x : Int) : Prop := x.natAbs < 10 ^ 1000
theorem log2_of_sm {x : Int} (h : Sm x) : x.natAbs.log2 < 4000 := by
  rcases Nat.eq_zero_or_pos x.natAbs with h0 | hp
  · rw [h0]; decide
  · exact (Nat.log2_lt (Nat.ne_of_gt hp)).mpr (Nat.lt_trans h (by decide +kernel))
theorem mul_ok {a b : Int} (ha : Sm a) (hb : Sm b) : IntMulOk a b := by
  have h1 := log2_of_sm ha
  have h2 := log2_of_sm hb
  have e1 : Builtin.Int.intBits a ≤ 4000 := by unfold Builtin.Int.intBits; split <;> omega
  have e2 : Builtin.Int.intBits b ≤ 4000 := by unfold Builtin.Int.intBits; split <;> omega
  have e3 : Builtin.Int.intTooBig (Builtin.Int.intBits a + Builtin.Int.intBits b) = false := by
    unfold Builtin.Int.intTooBig
    rw [bitsLine_eq]
    exact decide_eq_false (by omega)
  unfold IntMulOk
  rw [e3]
  simp
theorem div_ok {a b : Int} (hb : Sm b) : Builtin.divisionGoesByPylong a b = false := PyProof.noPylong_of_log2 (Nat.lt_trans (log2_of_sm hb) (by decide))
section
variable {w : World} {news : List (Addr × Obj)} {h₀ : Heap} {L D : Addr} {m : Str → Option Value} {s : Shared} {E : Value → Shared → Prop}
theorem pair_unpack {prog : Program} {A : Around} {env : Env} {elts : List PySem.Expr} {k} {pos : Pos} {a b : Int} {Q : Unit → Shared → Prop} (hp : PairIn news D a b) (F : Fr h₀ L s.heap m) (N : News h₀ L s.heap news) (X : (pre.heap_1 w.params).In h₀)
    (hh : A.handled = none) (hn : (assignEach elts env).length = 2) (hstar : (assignEach elts env).findIdx? (·.1) = none)
    (h : ∀ t1 t2 h', Fr h₀ L h' m → News h₀ L h' news → wpAny (model prog w) A (assignInOrder ((assignEach elts env).map (·.2)) [.int a t1, .int b t2]) Q E { s with heap := h' }) :
    wpAny (model prog w) A (assign (.Tuple elts k pos) env (.ref D)) Q E s := by
  obtain ⟨t1, t2, ht⟩ := hp.tup F N X
  exact unpackN_ F N ht hh hn hstar fun h' F' N' => h t1 t2 h' F' N'
theorem pair_unpackS {prog : Program} {A : Around} {n : Nat} {a b : Int} {Q : List Value → Shared → Prop} (hp : PairIn news D a b) (F : Fr h₀ L s.heap m) (N : News h₀ L s.heap news) (X : (pre.heap_1 w.params).In h₀)
    (hh : A.handled = none) (hn : n = 2) (h : ∀ t1 t2 h', Fr h₀ L h' m → News h₀ L h' news → Q [.int a t1, .int b t2] { s with heap := h' }) : wpAny (model prog w) A (unpackItems (.ref D) n none) Q E s := by
  obtain ⟨t1, t2, ht⟩ := hp.tup F N X
  exact unpackItemsN_ F N ht hh hn fun h' F' N' => h t1 t2 h' F' N'
end
theorem beq_yes {a b : Int} (h : a = b) : (a == b) = true := beq_iff_eq.mpr h
theorem beq_no {a b : Int} (h : a ≠ b) : ¬ (a == b) = true := fun q => h (beq_iff_eq.mp q)
def PPairE (x y : Int) : List (Addr × Obj) → Value → Prop := PPair fun p q => p = x ∧ q = y
section
variable {w : World} {mean : ExcName → Option Value} {mg mb : Str → Option Value} {f : Addr} {dep : Nat} {vs : List Value} {news news' : List (Addr × Obj)}
variable {dp un : Nat} {gd : Option (List Code)} {cn : Str} {cs : Scope} {a : Addr} {ccd : Value} {cl : List (Str × Addr)} {outer : List Env} {A₀ : Around} {base h₀ h : Heap} {L D : Addr} {m : Str → Option Value} {s : Shared} {Q E : Value → Shared → Prop}
theorem use_pairE {x y : Int} (C : Fn w mean mg mb f dep vs news (PPairE x y)) (B : Below A₀ base outer h₀) (F : Fr h₀ L s.heap m) (X : (pre.heap_1 w.params).In h₀) (N : News h₀ L s.heap news) (T : Top pre.view_1 (looseW pre.view_1 []) mean mg mb h₀) (hk : cs.kind = .function)
    (hdp : dp + dep < recursionLimit) (hu : un + 8 * dep < cLine) (hr : ∀ D tl h' tk', Fr h₀ L h' m → News h₀ L h' (tl ++ news) → PairIn (tl ++ news) D x y → Q (.ref D) { s with heap := h', toks := tk' }) :
    wpAny (model PySem.Challenge.rw_rh0118_01.row.prog w) (ktrTop dp un gd cn cs L a ccd cl outer) (call (.ref f) vs) Q E s :=
  fn_use C B F X N T hk hdp hu (by
    rintro r tl h' tk' F' N' ⟨D, p, q, rfl, hp, rfl, rfl⟩
    exact hr _ _ _ _ F' N' hp)
theorem end_pairE {x y : Int} {tk : Nat} (hret : Ret h₀ L m news s Q (PPairE x y)) (F : Fr h₀ L h m) (N : News h₀ L h news') (hs : ∀ p ∈ news, p ∈ news') (hp : PairIn news' D x y) : Q (.ref D) { s with heap := h, toks := tk } :=
  end_pair hret F N hs hp ⟨rfl, rfl⟩
end
abbrev triObj (a b c : Int) (t1 t2 t3 : Tok) (k : Nat) : Obj := { cls := .type "tuple", data := .seq #[.int a t1, .int b t2, .int c t3] k }
def PTri (x y z : Int) (news : List (Addr × Obj)) (r : Value) : Prop := ∃ D t1 t2 t3 k, r = .ref D ∧ (D, triObj x y z t1 t2 t3 k) ∈ news
section
variable {w : World} {mean : ExcName → Option Value} {mg mb : Str → Option Value} {f : Addr} {dep : Nat} {vs : List Value} {news news' : List (Addr × Obj)}
variable {dp un : Nat} {gd : Option (List Code)} {cn : Str} {cs : Scope} {a : Addr} {ccd : Value} {cl : List (Str × Addr)} {outer : List Env} {A₀ : Around} {base h₀ h : Heap} {L D : Addr} {m : Str → Option Value} {s : Shared} {Q E : Value → Shared → Prop}
theorem use_tri {x y z : Int} (C : Fn w mean mg mb f dep vs news (PTri x y z)) (B : Below A₀ base outer h₀) (F : Fr h₀ L s.heap m) (X : (pre.heap_1 w.params).In h₀) (N : News h₀ L s.heap news) (T : Top pre.view_1 (looseW pre.view_1 []) mean mg mb h₀) (hk : cs.kind = .function)
    (hdp : dp + dep < recursionLimit) (hu : un + 8 * dep < cLine) (hr : ∀ D t1 t2 t3 k tl h' tk', Fr h₀ L h' m → News h₀ L h' (tl ++ news) → (D, triObj x y z t1 t2 t3 k) ∈ tl ++ news → Q (.ref D) { s with heap := h', toks := tk' }) :
    wpAny (model PySem.Challenge.rw_rh0118_01.row.prog w) (ktrTop dp un gd cn cs L a ccd cl outer) (call (.ref f) vs) Q E s :=
  fn_use C B F X N T hk hdp hu (by
    rintro r tl h' tk' F' N' ⟨D, t1, t2, t3, k, rfl, hp⟩
    exact hr _ _ _ _ _ _ _ _ F' N' hp)
theorem end_tri {x y z : Int} {t1 t2 t3 : Tok} {k tk : Nat} (hret : Ret h₀ L m news s Q (PTri x y z)) (F : Fr h₀ L h m) (N : News h₀ L h news') (hs : ∀ p ∈ news, p ∈ news') (hp : (D, triObj x y z t1 t2 t3 k) ∈ news') : Q (.ref D) { s with heap := h, toks := tk } :=
  hret _ news' _ _ F (fun p hq => (List.mem_append.mp hq).elim (fun h => N p h) fun h => N p (hs p h)) ⟨D, t1, t2, t3, k, rfl, List.mem_append_left _ hp⟩
end
theorem end_tri' {news news' : List (Addr × Obj)} {h₀ h : Heap} {L D : Addr} {m : Str → Option Value} {s : Shared} {Q : Value → Shared → Prop} {x y z x' y' z' : Int} {t1 t2 t3 : Tok} {k tk : Nat} (hret : Ret h₀ L m news s Q (PTri x y z)) (F : Fr h₀ L h m) (N : News h₀ L h news') (hs : ∀ p ∈ news, p ∈ news') (hp : (D, triObj x' y' z' t1 t2 t3 k) ∈ news')
    (ex : x' = x) (ey : y' = y) (ez : z' = z) : Q (.ref D) { s with heap := h, toks := tk } := by
  subst ex ey ez
  exact end_tri hret F N hs hp
def PCpxE (x y z u : Int) : List (Addr × Obj) → Value → Prop := PCpx fun a b c d => a = x ∧ b = y ∧ c = z ∧ d = u
section
variable {w : World} {mean : ExcName → Option Value} {mg mb : Str → Option Value} {f : Addr} {dep : Nat} {vs : List Value} {news news' : List (Addr × Obj)}
variable {dp un : Nat} {gd : Option (List Code)} {cn : Str} {cs : Scope} {a : Addr} {ccd : Value} {cl : List (Str × Addr)} {outer : List Env} {A₀ : Around} {base h₀ h : Heap} {L D : Addr} {m : Str → Option Value} {s : Shared} {Q E : Value → Shared → Prop}
theorem use_cpxE {x y z u : Int} (C : Fn w mean mg mb f dep vs news (PCpxE x y z u)) (B : Below A₀ base outer h₀) (F : Fr h₀ L s.heap m) (X : (pre.heap_1 w.params).In h₀) (N : News h₀ L s.heap news) (T : Top pre.view_1 (looseW pre.view_1 []) mean mg mb h₀) (hk : cs.kind = .function)
    (hdp : dp + dep < recursionLimit) (hu : un + 8 * dep < cLine) (hr : ∀ Z D1 D2 k tl h' tk', Fr h₀ L h' m → News h₀ L h' (tl ++ news) → (Z, refsObj D1 D2 k) ∈ tl ++ news → PairIn (tl ++ news) D1 x y → PairIn (tl ++ news) D2 z u → Q (.ref Z) { s with heap := h', toks := tk' }) :
    wpAny (model PySem.Challenge.rw_rh0118_01.row.prog w) (ktrTop dp un gd cn cs L a ccd cl outer) (call (.ref f) vs) Q E s :=
  fn_use C B F X N T hk hdp hu (by
    rintro r tl h' tk' F' N' ⟨Z, D1, D2, k, a, b, c, d, rfl, h1, h2, h3, rfl, rfl, rfl, rfl⟩
    exact hr _ _ _ _ _ _ _ F' N' h1 h2 h3)
end
end
local macro_rules | `(tactic| walk_at "mine sub") => `(tactic| first | with_reducible exact sub_refl | (refine sub_cons ?_; walk_at "mine sub") | (refine sub_right ?_; walk_at "mine sub") | (refine sub_left ?_; walk_at "mine sub"))
local macro_rules | `(tactic| walk_at "mine pair") => `(tactic| first | exact PairIn.mono (by with_reducible assumption) (by walk_at "mine sub") | exact PairIn.made (by k_mem) | exact Or.inr ⟨rfl, rfl, rfl⟩)
local macro_rules | `(tactic| walk_at "mine mem") => `(tactic| first | with_reducible assumption | exact List.mem_cons_self | (refine List.mem_cons_of_mem _ ?_; walk_at "mine mem") | (refine List.mem_append_right _ ?_; walk_at "mine mem") | (refine List.mem_append_left _ ?_; walk_at "mine mem"))
local macro_rules | `(tactic| walk_at "mine use") => `(tactic| ((case k1 => k_asm); (case k2 => k_asm); (case k3 => k_asm); (case k4 => k_asm); (case k5 => k_asm); (case kK => first | exact rfl | assumption); (case kd => ktr_room); (case ku => ktr_units)))
local macro_rules | `(tactic| walk_at "subscriptTail") => `(tactic| (k_here; (with_reducible show wpAny _ _ (subscriptTail _ _ (Value.ref _) (Value.int 0 _)) _ _ _); k_dflt (refine' pair_at0 ?hp ?F ?N ?X ?_; (case F => k_asm); (case N => k_asm); (case X => k_asm); (case hp => walk_at "mine pair")); intro _))
local macro_rules | `(tactic| walk_at "subscriptTail") => `(tactic| (k_here; (with_reducible show wpAny _ _ (subscriptTail _ _ (Value.ref _) (Value.int 1 _)) _ _ _); k_dflt (refine' pair_at1 ?hp ?F ?N ?X ?_; (case F => k_asm); (case N => k_asm); (case X => k_asm); (case hp => walk_at "mine pair")); intro _))
local macro_rules | `(tactic| walk_at "mine sm") => `(tactic| with_reducible assumption)
local macro_rules | `(tactic| walk_at "binaryOp Mult int int") => `(tactic| (k_here; (with_reducible refine mul_int ?_ ?hm); (case hm => first | mul_fits | exact mul_ok (by walk_at "mine sm") (by walk_at "mine sm"))))
local macro_rules | `(tactic| walk_at "inplaceOp Mult int int") => `(tactic| (k_here; (with_reducible refine imul_int ?_ ?hm); (case hm => first | mul_fits | exact mul_ok (by walk_at "mine sm") (by walk_at "mine sm"))))
local macro_rules | `(tactic| walk_at "mine start") => `(tactic| (unfold Fn; k_fill; intro dp un gd cn cs a ccd cl outer A₀ base h₀ L m s Q E B F X N T hk hdp hu hret; refine wpAny_call ?_; k_dflt ktr_enter))
local macro_rules | `(tactic| walk_at "mine ne") => `(tactic| first | with_reducible assumption | omega | decide)
local macro_rules | `(tactic| walk_at "call builtin:divmod") => `(tactic| (k_here; k_dflt (refine' divmod_N ?F ?N ?ne ?_ (Or.inl (div_ok ?sm)); (case F => k_asm); (case N => k_asm); (case ne => walk_at "mine ne"); (case sm => walk_at "mine sm")); intro _ _ _; (try dsimp only)))
local macro_rules | `(tactic| walk_at "binaryOp FloorDiv int int") => `(tactic| (k_here; (with_reducible refine floordiv_int ?ne ?_ (Or.inl (div_ok ?sm))); (case ne => walk_at "mine ne"); (case sm => walk_at "mine sm")))
local macro_rules | `(tactic| walk_at "inplaceOp FloorDiv int int") => `(tactic| (k_here; (with_reducible refine ifloordiv_int ?ne ?_ (Or.inl (div_ok ?sm))); (case ne => walk_at "mine ne"); (case sm => walk_at "mine sm")))
local macro_rules | `(tactic| walk_at "assign Tuple") => `(tactic| (k_here; (with_reducible show wpAny _ _ (assign (Expr.Tuple _ _ _) _ (Value.ref _)) _ _ _); k_dflt (refine' pair_unpack ?hp ?F ?N ?X ?hh ?hn ?hs ?_; (case F => k_asm); (case N => k_asm); (case X => k_asm); (case hp => walk_at "mine pair"); (case hh => rfl); (case hn => rfl); (case hs => rfl)); intro _ _ _ _ _; (try dsimp only)))
local macro_rules | `(tactic| walk_at "unpackItems ref") => `(tactic| (k_here; k_dflt (refine' pair_unpackS ?hp ?F ?N ?X ?hh ?hn ?_; (case F => k_asm); (case N => k_asm); (case X => k_asm); (case hp => walk_at "mine pair"); (case hh => rfl); (case hn => rfl)); intro _ _ _ _ _; (try dsimp only)))
local macro_rules | `(tactic| walk_at "mine endp") => `(tactic| refine end_pair (by assumption) (by with_reducible assumption) (by with_reducible assumption) (by walk_at "mine sub") (by walk_at "mine pair") ?_)
local macro_rules | `(tactic| walk_at "mine pre") => `(tactic| first | with_reducible assumption | omega)
local macro_rules | `(tactic| walk_at "mine ok") => `(tactic| first | with_reducible assumption | mul_fits | exact mul_ok (by walk_at "mine sm") (by walk_at "mine sm"))
local macro_rules | `(tactic| walk_at "ite") => `(tactic| (k_here; first | with_reducible refine ite_pos (beq_yes (by assumption)) ?_ | with_reducible refine ite_neg (beq_no (by assumption)) ?_))
local macro_rules | `(tactic| walk_at "mine endE") => `(tactic| refine end_pairE (by assumption) (by with_reducible assumption) (by with_reducible assumption) (by walk_at "mine sub") (by walk_at "mine pair"))
local macro_rules | `(tactic| walk_at "mine endc") => `(tactic| refine end_cpx (by assumption) (by with_reducible assumption) (by with_reducible assumption) (by walk_at "mine sub") (by walk_at "mine mem") (by walk_at "mine pair") (by walk_at "mine pair") ?_)
section
theorem words_S1 : True := by
  k_with_none
  trivial
def cdN : Nat → Nat → Nat
  | 0, _ => 0
  | f + 1, n => if n = 0 then 0 else cdN f (n / 10) + 1
/-- number of decimal digits -/
def cd (n : Nat) : Nat := cdN n n
theorem cdN_fuel : ∀ (f g n : Nat), n ≤ f → n ≤ g → cdN f n = cdN g n
  | 0, 0, _, _, _ => rfl
  | 0, g + 1, n, h, _ => by have : n = 0 := by omega
                            subst this; simp [cdN]
  | f + 1, 0, n, _, h => by have : n = 0 := by omega
                            subst this; simp [cdN]
  | f + 1, g + 1, n, h1, h2 => by
    unfold cdN
    by_cases h : n = 0
    · rw [if_pos h, if_pos h]
    · rw [if_neg h, if_neg h, cdN_fuel f g (n / 10) (by omega) (by omega)]
theorem cd_zero : cd 0 = 0 := rfl
theorem cd_pos {n : Nat} (h : 0 < n) : cd n = cd (n / 10) + 1 := by
  obtain ⟨m, rfl⟩ : ∃ m, n = m + 1 := ⟨n - 1, by omega⟩
  unfold cd
  rw [cdN, if_neg (by omega), cdN_fuel m ((m + 1) / 10) _ (by omega) (Nat.le_refl _)]
theorem cd_nine {n : Nat} (h : 1000000000 ≤ n) : cd n = cd (n / 1000000000) + 9 := by
  rw [cd_pos (by omega), cd_pos (n := n / 10) (by omega), cd_pos (n := n / 10 / 10) (by omega), cd_pos (n := n / 10 / 10 / 10) (by omega), cd_pos (n := n / 10 / 10 / 10 / 10) (by omega),
    cd_pos (n := n / 10 / 10 / 10 / 10 / 10) (by omega), cd_pos (n := n / 10 / 10 / 10 / 10 / 10 / 10) (by omega), cd_pos (n := n / 10 / 10 / 10 / 10 / 10 / 10 / 10) (by omega), cd_pos (n := n / 10 / 10 / 10 / 10 / 10 / 10 / 10 / 10) (by omega)]
  simp only [Nat.div_div_eq_div_mul]
theorem abs_if (x : Int) : (if x < 0 then -x else x) = (x.natAbs : Int) := by split <;> omega
theorem cd_start (x : Int) : (0 ≤ if x < 0 then -x else x) ∧ 0 + ((cd (if x < 0 then -x else x).natAbs : Nat) : Int) = ((cd x.natAbs : Nat) : Int) := by
  rw [abs_if, Int.natAbs_natCast]
  omega
theorem cd_turn9 {n count C : Int} (h : 0 ≤ n ∧ count + ((cd n.natAbs : Nat) : Int) = C) (h2 : 1000000000 ≤ n) : 0 ≤ n.fdiv 1000000000 ∧ count + 9 + ((cd (n.fdiv 1000000000).natAbs : Nat) : Int) = C := by
  obtain ⟨k, rfl⟩ := Int.eq_ofNat_of_zero_le h.1
  have e : (k : Int).fdiv 1000000000 = ((k / 1000000000 : Nat) : Int) := by rw [Int.fdiv_eq_ediv_of_nonneg _ (by omega)]; rfl
  have h3 := h.2
  rw [e]
  rw [Int.natAbs_natCast] at h3 ⊢
  rw [cd_nine (by omega)] at h3
  omega
theorem cd_turn1 {n count C : Int} (h : 0 ≤ n ∧ count + ((cd n.natAbs : Nat) : Int) = C) (h2 : 0 < n) : 0 ≤ n.fdiv 10 ∧ count + 1 + ((cd (n.fdiv 10).natAbs : Nat) : Int) = C := by
  obtain ⟨k, rfl⟩ := Int.eq_ofNat_of_zero_le h.1
  have e : (k : Int).fdiv 10 = ((k / 10 : Nat) : Int) := by rw [Int.fdiv_eq_ediv_of_nonneg _ (by omega)]; rfl
  have h3 := h.2
  rw [e]
  rw [Int.natAbs_natCast] at h3 ⊢
  rw [cd_pos (by omega)] at h3
  omega
theorem cd_end {n count C : Int} (h0 : 0 ≤ n) (h1 : count + ((cd n.natAbs : Nat) : Int) = C) (h2 : ¬ 0 < n) : count = C := by
  have : n = 0 := by omega
  subst this
  simpa [cd_zero] using h1
theorem cd_meas9 {n : Int} (h2 : 1000000000 ≤ n) : (n.fdiv 1000000000).toNat < n.toNat := by
  have e : n.fdiv 1000000000 = n / 1000000000 := Int.fdiv_eq_ediv_of_nonneg _ (by omega)
  rw [e]; omega
theorem cd_meas1 {n : Int} (h2 : 0 < n) : (n.fdiv 10).toNat < n.toNat := by
  have e : n.fdiv 10 = n / 10 := Int.fdiv_eq_ediv_of_nonneg _ (by omega)
  rw [e]; omega
set_option maxRecDepth 100000 in
set_option maxHeartbeats 1000000 in
theorem count_digits_spec (w : World) (mean : ExcName → Option Value) (mg mb : Str → Option Value) (news : List (Addr × Obj)) (x : Int) (t : Tok) :
    Fn w mean mg mb 54 1 [.int x t] news (PInt (cd x.natAbs)) := by
  walk_at "mine start"
  k_with "exec While Compare cons nil" => k_while (fun _ n count => 0 ≤ n ∧ count + cd n.natAbs = cd x.natAbs) (fun _ n _ => n.toNat) "n" "count"
  k_with "state" => first
    | exact cd_start _
    | exact cd_turn9 ⟨by assumption, by assumption⟩ (by assumption)
    | exact cd_turn1 ⟨by assumption, by assumption⟩ (by assumption)
  k_with "measure" => first
    | exact cd_meas9 (by assumption)
    | exact cd_meas1 (by assumption)
  k_steps
  all_goals (refine end_int (by assumption) (by assumption) (by assumption) (by walk_at "mine sub") (cd_end (by assumption) (by assumption) (by assumption)))
end
section
local macro_rules | `(tactic| walk_at "mine dummy") => `(tactic| skip)
theorem words_S2 : True := by
  k_with_none
  k_with "mine call" => (k_here; (with_reducible show wpAny _ _ (call (Value.ref 54) [Value.int _ _]) _ _ _); k_dflt (refine' use_int (count_digits_spec _ _ _ _ _ _ _ ) ?k1 ?k2 ?k3 ?k4 ?k5 ?kK ?kd ?ku ?_; walk_at "mine use"); intro _ _ _ _ _; (try dsimp only))
  trivial
/-- what strip_zeros hands back -/
def Strip (m e a b : Int) : Prop := (m = 0 ∧ a = 0 ∧ b = 0) ∨ (m ≠ 0 ∧ ∃ j : Nat, m = a * 10 ^ j ∧ b = e + j)
def StripI (m e a b : Int) : Prop := a ≠ 0 ∧ ∃ j : Nat, m = a * 10 ^ j ∧ b = e + j
theorem strip_start {m e : Int} (h : m ≠ 0) : StripI m e m e := ⟨h, 0, by simp, by simp⟩
theorem strip_turn {m e a b : Int} (h : StripI m e a b) (h2 : a.fmod 10 = 0) : StripI m e (a.fdiv 10) (b + 1) := by
  obtain ⟨h0, j, rfl, rfl⟩ := h
  rw [Int.fmod_eq_emod_of_nonneg _ (by omega)] at h2
  rw [Int.fdiv_eq_ediv_of_nonneg _ (by omega)]
  refine ⟨by omega, j + 1, ?_, by omega⟩
  have e : a = a / 10 * 10 := by omega
  rw [Int.pow_succ, ← Int.mul_assoc, Int.mul_right_comm, ← e]
theorem strip_meas {m e a b : Int} (h : StripI m e a b) (h2 : a.fmod 10 = 0) : (a.fdiv 10).natAbs < a.natAbs := by
  have h0 := h.1
  rw [Int.fmod_eq_emod_of_nonneg _ (by omega)] at h2
  rw [Int.fdiv_eq_ediv_of_nonneg _ (by omega)]
  omega
theorem strip_end {m e a b : Int} (h0 : m ≠ 0) (h : StripI m e a b) : Strip m e a b := .inr ⟨h0, h.2⟩
set_option maxRecDepth 100000 in
set_option maxHeartbeats 1000000 in
theorem strip_zeros_spec (w : World) (mean : ExcName → Option Value) (mg mb : Str → Option Value) (news : List (Addr × Obj)) (x y : Int) (t u : Tok) :
    Fn w mean mg mb 61 1 [.int x t, .int y u] news (PPair (Strip x y)) := by
  walk_at "mine start"
  k_with "exec While Compare cons nil" => k_while (fun _ n e => StripI x y n e) (fun _ n _ => n.natAbs) "m" "e"
  k_with "state" => first
    | exact strip_start (by assumption)
    | exact strip_turn (by assumption) (by assumption)
  k_with "measure" => exact strip_meas (by assumption) (by assumption)
  k_steps
  all_goals (refine end_pair (by assumption) (by assumption) (by assumption) (by walk_at "mine sub") (by walk_at "mine pair") ?_)
  · exact .inl ⟨by assumption, rfl, rfl⟩
  · exact strip_end (by assumption) (by assumption)
end
section
theorem cd_le : ∀ {k n : Nat}, cd n ≤ k ↔ n < 10 ^ k
  | 0, n => by
    rcases Nat.eq_zero_or_pos n with rfl | h
    · simp [cd_zero]
    · rw [cd_pos h]; simp; omega
  | k + 1, n => by
    rcases Nat.eq_zero_or_pos n with rfl | h
    · rw [cd_zero]; simp [Nat.pow_pos]
    · rw [cd_pos h, Nat.add_le_add_iff_right, cd_le, Nat.div_lt_iff_lt_mul (by omega), Nat.pow_succ]
theorem lt_cd {k n : Nat} : k < cd n ↔ 10 ^ k ≤ n := by
  rw [← Nat.not_le, cd_le, Nat.not_lt]
theorem lt_pow_cd (n : Nat) : n < 10 ^ cd n := cd_le.mp (Nat.le_refl _)
theorem cd_pos_of {n : Nat} (h : 0 < n) : 0 < cd n := by rw [cd_pos h]; omega
theorem pow_cd_le {n : Nat} (h : 0 < n) : 10 ^ (cd n - 1) ≤ n := lt_cd.mp (by have := cd_pos_of h; omega)
theorem cd_mono {a b : Nat} (h : a ≤ b) : cd a ≤ cd b := cd_le.mpr (Nat.lt_of_le_of_lt h (lt_pow_cd b))
theorem cd_mul_pow {n : Nat} (h : 0 < n) (j : Nat) : cd (n * 10 ^ j) = cd n + j := by
  apply Nat.le_antisymm
  · rw [cd_le, Nat.pow_add]
    exact Nat.mul_lt_mul_of_pos_right (lt_pow_cd n) (Nat.pow_pos (by decide))
  · have h1 := cd_pos_of h
    have : cd n + j - 1 < cd (n * 10 ^ j) := by
      rw [lt_cd, show cd n + j - 1 = (cd n - 1) + j by omega, Nat.pow_add]
      exact Nat.mul_le_mul_right _ (pow_cd_le h)
    omega
theorem cd_pow (j : Nat) : cd (10 ^ j) = j + 1 := by
  have h := cd_mul_pow (n := 1) (by decide) j
  rw [Nat.one_mul] at h
  rw [h, show cd 1 = 1 from by decide, Nat.add_comm]
/-- m times ten to the e, rounded to d digits -/
def Rnd (m e d a b : Int) : Prop := m ≠ 0 ∧ a ≠ 0 ∧ ∃ j : Nat, b = e + j ∧ 2 * (a * 10 ^ j - m).natAbs * 10 ^ d.toNat ≤ 10 ^ cd m.natAbs ∧ a.natAbs ≤ 10 ^ d.toNat ∧ cd m.natAbs ≤ cd a.natAbs + j ∧ cd a.natAbs + j ≤ cd m.natAbs + 1
/-- before the noughts are struck -/
def Rd1 (m e d a b : Int) : Prop := m ≠ 0 ∧ a ≠ 0 ∧ ∃ j : Nat, b = e + j ∧ 2 * (a * 10 ^ j - m).natAbs * 10 ^ d.toNat ≤ 10 ^ cd m.natAbs ∧ a.natAbs ≤ 10 ^ d.toNat ∧ 10 ^ (cd m.natAbs - 1) ≤ a.natAbs * 10 ^ j ∧ a.natAbs * 10 ^ j ≤ 10 ^ cd m.natAbs
theorem rnd_of {m e d a b a' b' : Int} (h : Rd1 m e d a b) (h2 : Strip a b a' b') : Rnd m e d a' b' := by
  obtain ⟨h0, h1, j, rfl, h3, h4, h5, h6⟩ := h
  rcases h2 with h2 | ⟨_, i, rfl, rfl⟩
  · exact absurd h2.1 h1
  have ha : a' ≠ 0 := by rintro rfl; simp at h1
  have e : a' * 10 ^ i * 10 ^ j = a' * 10 ^ (i + j) := by rw [Int.mul_assoc, ← Int.pow_add]
  have hn : (a' * 10 ^ i).natAbs = a'.natAbs * 10 ^ i := by rw [Int.natAbs_mul, Int.natAbs_pow]; rfl
  have en : (a' * 10 ^ i).natAbs * 10 ^ j = a'.natAbs * 10 ^ (i + j) := by rw [hn, Nat.mul_assoc, ← Nat.pow_add]
  have hp : 0 < a'.natAbs := Int.natAbs_pos.mpr ha
  have hc := cd_mul_pow hp (i + j)
  rw [en] at h5 h6
  refine ⟨h0, ha, i + j, by omega, by rw [← e]; exact h3, ?_, ?_, ?_⟩
  · rw [hn] at h4
    exact Nat.le_trans (Nat.le_mul_of_pos_right _ (Nat.pow_pos (by decide))) h4
  · have : cd m.natAbs - 1 < cd (a'.natAbs * 10 ^ (i + j)) := lt_cd.mpr h5
    have := cd_pos_of (Int.natAbs_pos.mpr h0)
    (clear hp en hn ha h6 h5 h4 h3 h1 h0; omega)
  · have := cd_mono h6
    rw [cd_pow] at this
    (clear hp en hn ha h6 h5 h4 h3 h1 h0; omega)
theorem rd_none {m e d : Int} (h0 : m ≠ 0) (h : ¬ 0 < (cd m.natAbs : Int) - d) : Rd1 m e d m e := by
  refine ⟨h0, h0, 0, by simp, by simp, ?_, by simp; exact pow_cd_le (Int.natAbs_pos.mpr h0), by simp; exact Nat.le_of_lt (lt_pow_cd _)⟩
  exact Nat.le_of_lt (Nat.lt_of_lt_of_le (lt_pow_cd _) (Nat.pow_le_pow_right (by decide) (by omega)))
theorem tenp (j : Nat) : ((10 : Int) ^ j) = ((10 ^ j : Nat) : Int) := by rw [Int.natCast_pow]; rfl
/-- the kept part, either way -/
theorem rd_some {m e d kept : Int} (h0 : m ≠ 0) (hd : 1 ≤ d) (h : 0 < (cd m.natAbs : Int) - d) (hk : 10 ^ (d.toNat - 1) ≤ kept) (hk2 : kept ≤ 10 ^ d.toNat)
    (he : 2 * (kept * 10 ^ ((cd m.natAbs : Int) - d).toNat - (m.natAbs : Int)).natAbs ≤ 10 ^ ((cd m.natAbs : Int) - d).toNat) :
    Rd1 m e d (if 0 < m then kept else -kept) (e + ((cd m.natAbs : Int) - d)) := by
  generalize hj : ((cd m.natAbs : Int) - d).toNat = j at he
  have hjd : cd m.natAbs = j + d.toNat := by omega
  have hkp : 0 < kept := Int.lt_of_lt_of_le (Int.pow_pos (by decide)) hk
  obtain ⟨k, rfl⟩ := Int.eq_ofNat_of_zero_le (Int.le_of_lt hkp)
  have hn : (if 0 < m then (k : Int) else -k).natAbs = k := by split <;> (clear he hk2 hk hjd hj h hd h0; omega)
  have hm2 : ((if 0 < m then (k : Int) else -k) * 10 ^ j - m).natAbs = ((k : Int) * 10 ^ j - m.natAbs).natAbs := by
    by_cases hm : 0 < m
    · rw [if_pos hm, show ((m.natAbs : Nat) : Int) = m by (clear hn hkp he hk2 hk hjd hj h hd h0; omega)]
    · rw [if_neg hm, show ((m.natAbs : Nat) : Int) = -m by (clear hn hkp he hk2 hk hjd hj h hd h0; omega), Int.neg_mul]; (clear hm hn hkp he hk2 hk hjd hj h hd h0; omega)
  have hk' : 10 ^ (d.toNat - 1) ≤ k := by rw [tenp] at hk; omega
  have hk2' : k ≤ 10 ^ d.toNat := by rw [tenp] at hk2; omega
  refine ⟨h0, ?_, j, by omega, ?_, by rw [hn]; exact hk2', ?_, ?_⟩
  · split <;> (clear hk2' hk' hm2 he hk2 hk hjd hj h hd h0; omega)
  · rw [hm2, hjd, Nat.pow_add]
    exact Nat.mul_le_mul_right _ he
  · rw [hn, hjd, show j + d.toNat - 1 = (d.toNat - 1) + j by omega, Nat.pow_add]
    exact Nat.mul_le_mul_right _ hk'
  · rw [hn, hjd, Nat.add_comm, Nat.pow_add]
    exact Nat.mul_le_mul_right _ hk2'
theorem kept_facts {m d : Int} (h0 : m ≠ 0) (hd : 1 ≤ d) (h : 0 < (cd m.natAbs : Int) - d) {x : Int} (hx : x = (m.natAbs : Int)) {p : Int} (hp : p = 10 ^ ((cd m.natAbs : Int) - d).toNat) :
    10 ^ (d.toNat - 1) ≤ x.fdiv p ∧ x.fdiv p < 10 ^ d.toNat ∧ x = x.fdiv p * p + x.fmod p ∧ 0 ≤ x.fmod p ∧ x.fmod p < p := by
  subst hx
  generalize hj : ((cd m.natAbs : Int) - d).toNat = j at hp
  have hjd : cd m.natAbs = j + d.toNat := by omega
  have hpn : p = ((10 ^ j : Nat) : Int) := by rw [hp, tenp]
  subst hpn
  rw [Int.fdiv_eq_ediv_of_nonneg _ (Int.natCast_nonneg _), Int.fmod_eq_emod_of_nonneg _ (Int.natCast_nonneg _)]
  have hq : 0 < 10 ^ j := Nat.pow_pos (by decide)
  have h1 := lt_pow_cd m.natAbs
  have h2 := pow_cd_le (Int.natAbs_pos.mpr h0)
  rw [hjd, Nat.add_comm, Nat.pow_add] at h1
  rw [hjd, show j + d.toNat - 1 = (d.toNat - 1) + j by omega, Nat.pow_add] at h2
  have h3 : m.natAbs / 10 ^ j < 10 ^ d.toNat := (Nat.div_lt_iff_lt_mul hq).mpr h1
  have h4 : 10 ^ (d.toNat - 1) ≤ m.natAbs / 10 ^ j := (Nat.le_div_iff_mul_le hq).mpr h2
  refine ⟨?_, ?_, ?_, ?_, ?_⟩
  · rw [tenp, ← Int.natCast_ediv]; omega
  · rw [tenp, ← Int.natCast_ediv]; omega
  · have := Int.mul_ediv_add_emod (m.natAbs : Int) ((10 ^ j : Nat) : Int)
    rw [Int.mul_comm] at this
    exact this.symm
  · exact Int.emod_nonneg _ (Int.natCast_ne_zero.mpr (Nat.ne_of_gt hq))
  · exact Int.emod_lt_of_pos _ (Int.natCast_pos.mpr hq)
theorem rd_down {m e d : Int} (h0 : m ≠ 0) (hd : 1 ≤ d) (h : 0 < (cd m.natAbs : Int) - d) {x : Int} (hx : x = (m.natAbs : Int))
    (hr : 2 * x.fmod (10 ^ ((cd m.natAbs : Int) - d).toNat) ≤ 10 ^ ((cd m.natAbs : Int) - d).toNat) :
    Rd1 m e d (if 0 < m then x.fdiv (10 ^ ((cd m.natAbs : Int) - d).toNat) else -x.fdiv (10 ^ ((cd m.natAbs : Int) - d).toNat)) (e + ((cd m.natAbs : Int) - d)) := by
  obtain ⟨f1, f2, f3, f4, f5⟩ := kept_facts h0 hd h hx rfl
  refine rd_some h0 hd h f1 (Int.le_of_lt f2) ?_
  rw [← hx]
  have e : ((10 : Int) ^ ((cd m.natAbs : Int) - d).toNat) = ((10 ^ ((cd m.natAbs : Int) - d).toNat : Nat) : Int) := tenp _
  generalize hp : (10 : Int) ^ ((cd m.natAbs : Int) - d).toNat = p at *
  generalize (10 : Nat) ^ ((cd m.natAbs : Int) - d).toNat = q at *
  generalize x.fdiv p * p = y at *
  (clear f2 f1 hp h hd h0; omega)
theorem rd_up {m e d : Int} (h0 : m ≠ 0) (hd : 1 ≤ d) (h : 0 < (cd m.natAbs : Int) - d) {x : Int} (hx : x = (m.natAbs : Int))
    (hr : 10 ^ ((cd m.natAbs : Int) - d).toNat ≤ 2 * x.fmod (10 ^ ((cd m.natAbs : Int) - d).toNat)) :
    Rd1 m e d (if 0 < m then x.fdiv (10 ^ ((cd m.natAbs : Int) - d).toNat) + 1 else -(x.fdiv (10 ^ ((cd m.natAbs : Int) - d).toNat) + 1)) (e + ((cd m.natAbs : Int) - d)) := by
  obtain ⟨f1, f2, f3, f4, f5⟩ := kept_facts h0 hd h hx rfl
  refine rd_some h0 hd h (by omega) (by omega) ?_
  rw [← hx, Int.add_mul, Int.one_mul]
  have e : ((10 : Int) ^ ((cd m.natAbs : Int) - d).toNat) = ((10 ^ ((cd m.natAbs : Int) - d).toNat : Nat) : Int) := tenp _
  generalize hp : (10 : Int) ^ ((cd m.natAbs : Int) - d).toNat = p at *
  generalize (10 : Nat) ^ ((cd m.natAbs : Int) - d).toNat = q at *
  generalize x.fdiv p * p = y at *
  (clear f4 f2 f1 hp h hd h0; omega)
theorem sm_pow {j : Nat} (h : j ≤ 900) : Sm (10 ^ j) := by
  unfold Sm
  rw [tenp, Int.natAbs_natCast]
  exact Nat.pow_lt_pow_right (by decide) (by omega)
theorem pow_ne {j : Nat} : (10 : Int) ^ j ≠ 0 := Int.ne_of_gt (Int.pow_pos (by decide))
theorem sm_lt {x : Int} {k : Nat} (h : x.natAbs < 10 ^ k) (hk : k ≤ 1000) : Sm x := Nat.lt_of_lt_of_le h (Nat.pow_le_pow_right (by decide) hk)
theorem rdf_up {x y d a b z : Int} (hd : 1 ≤ d) (h : 0 < (cd x.natAbs : Int) - d)
    (hr : 10 ^ ((cd x.natAbs : Int) - d).toNat ≤ 2 * (if x < 0 then -x else x).fmod (10 ^ ((cd x.natAbs : Int) - d).toNat))
    (hz : z = if 0 < x then (if x < 0 then -x else x).fdiv (10 ^ ((cd x.natAbs : Int) - d).toNat) + 1 else -((if x < 0 then -x else x).fdiv (10 ^ ((cd x.natAbs : Int) - d).toNat) + 1))
    (hs : Strip z (y + ((cd x.natAbs : Int) - d)) a b) : (x = 0 ∧ a = 0 ∧ b = 0) ∨ Rnd x y d a b := by
  have h0 : x ≠ 0 := by rintro rfl; simp [cd_zero] at h; omega
  subst hz
  exact .inr (rnd_of (rd_up h0 hd h (abs_if x) hr) hs)
theorem rdf_down {x y d a b z : Int} (hd : 1 ≤ d) (h : 0 < (cd x.natAbs : Int) - d)
    (hr : ¬ 10 ^ ((cd x.natAbs : Int) - d).toNat < 2 * (if x < 0 then -x else x).fmod (10 ^ ((cd x.natAbs : Int) - d).toNat))
    (hz : z = if 0 < x then (if x < 0 then -x else x).fdiv (10 ^ ((cd x.natAbs : Int) - d).toNat) else -(if x < 0 then -x else x).fdiv (10 ^ ((cd x.natAbs : Int) - d).toNat))
    (hs : Strip z (y + ((cd x.natAbs : Int) - d)) a b) : (x = 0 ∧ a = 0 ∧ b = 0) ∨ Rnd x y d a b := by
  have h0 : x ≠ 0 := by rintro rfl; simp [cd_zero] at h; omega
  subst hz
  exact .inr (rnd_of (rd_down h0 hd h (abs_if x) (Int.not_lt.mp hr)) hs)
theorem rdf_none {x y d a b : Int} (h : ¬ 0 < (cd x.natAbs : Int) - d) (hs : Strip x y a b) : (x = 0 ∧ a = 0 ∧ b = 0) ∨ Rnd x y d a b := by
  by_cases h0 : x = 0
  · rcases hs with hs | hs
    · exact .inl hs
    · exact absurd h0 hs.1
  · exact .inr (rnd_of (rd_none h0 h) hs)
def RR (x y d top a b : Int) : Prop := (a = 0 ∧ b = 0 ∧ (x = 0 ∨ (cd x.natAbs : Int) + y ≤ -top)) ∨ Rnd x y d a b
theorem rr_zero {x y d top a b : Int} (h : (x = 0 ∧ a = 0 ∧ b = 0) ∨ Rnd x y d a b) (h0 : a = 0) : RR x y d top 0 0 := by
  rcases h with h | h
  · exact .inl ⟨rfl, rfl, .inl h.1⟩
  · exact absurd h0 h.2.1
theorem rnd_lead {x y d a b : Int} (h : Rnd x y d a b) : (cd x.natAbs : Int) + y ≤ b + cd a.natAbs ∧ b + cd a.natAbs ≤ cd x.natAbs + y + 1 := by
  obtain ⟨_, _, j, rfl, _, _, h1, h2⟩ := h
  omega
theorem rr_rnd {x y d a b : Int} (h : (x = 0 ∧ a = 0 ∧ b = 0) ∨ Rnd x y d a b) (h0 : a ≠ 0) : Rnd x y d a b := by
  rcases h with h | h
  · exact absurd h.2.1 h0
  · exact h
theorem rr_small {x y d top a b : Int} (h : (x = 0 ∧ a = 0 ∧ b = 0) ∨ Rnd x y d a b) (h0 : a ≠ 0) (hl : b + (cd a.natAbs : Int) - 1 < -top) : RR x y d top 0 0 := by
  have := rnd_lead (rr_rnd h h0)
  exact .inl ⟨rfl, rfl, .inr (by omega)⟩
theorem rr_over {x y d top a b : Int} (h : (x = 0 ∧ a = 0 ∧ b = 0) ∨ Rnd x y d a b) (h0 : a ≠ 0) (hl : top < b + (cd a.natAbs : Int) - 1) (hov : (cd x.natAbs : Int) + y ≤ top) : False := by
  have := rnd_lead (rr_rnd h h0)
  omega
theorem rr_fine {x y d top a b : Int} (h : (x = 0 ∧ a = 0 ∧ b = 0) ∨ Rnd x y d a b) (h0 : a ≠ 0) : RR x y d top a b := .inr (rr_rnd h h0)
end
section
theorem words_S3 : True := by
  k_with_none
  k_with "mine call" => (k_here; (with_reducible show wpAny _ _ (call (Value.ref 54) [Value.int _ _]) _ _ _); k_dflt (refine' use_int (count_digits_spec _ _ _ _ _ _ _ ) ?k1 ?k2 ?k3 ?k4 ?k5 ?kK ?kd ?ku ?_; walk_at "mine use"); intro _ _ _ _ _; (try dsimp only))
  k_with "mine call" => (k_here; (with_reducible show wpAny _ _ (call (Value.ref 61) [Value.int _ _, Value.int _ _]) _ _ _); k_dflt (refine' use_pair (strip_zeros_spec _ _ _ _ _ _ _ _ _ ) ?k1 ?k2 ?k3 ?k4 ?k5 ?kK ?kd ?ku ?_; walk_at "mine use"); intro _ _ _ _ _ _ _ _ _ _; (try dsimp only))
  k_with "mine call" => (k_here; (with_reducible show wpAny _ _ (call (Value.ref 54) [Value.int _ _]) _ _ _); k_dflt (refine' use_int (count_digits_spec _ _ _ _ _ _ _ ) ?k1 ?k2 ?k3 ?k4 ?k5 ?kK ?kd ?ku ?_; walk_at "mine use"); intro _ _ _ _ _; (try dsimp only))
  k_with "mine call" => (k_here; (with_reducible show wpAny _ _ (call (Value.ref 61) [Value.int _ _, Value.int _ _]) _ _ _); k_dflt (refine' use_pair (strip_zeros_spec _ _ _ _ _ _ _ _ _ ) ?k1 ?k2 ?k3 ?k4 ?k5 ?kK ?kd ?ku ?_; walk_at "mine use"); intro _ _ _ _ _ _ _ _ _ _; (try dsimp only))
  trivial

set_option maxRecDepth 100000 in
set_option maxHeartbeats 1000000 in
theorem round_digits_spec (w : World) (mean : ExcName → Option Value) (mg mb : Str → Option Value) (news : List (Addr × Obj)) (x y d : Int) (t u v : Tok) (hd : 1 ≤ d) (hx : cd x.natAbs ≤ 900) :
    Fn w mean mg mb 68 2 [.int x t, .int y u, .int d v] news (PPair fun a b => (x = 0 ∧ a = 0 ∧ b = 0) ∨ Rnd x y d a b) := by
  walk_at "mine start"
  k_with "mine sm" => exact sm_pow (by omega)
  k_with "mine ne" => exact pow_ne
  k_steps
  all_goals (refine end_pair (by assumption) (by assumption) (by assumption) (by walk_at "mine sub") (by walk_at "mine pair") ?_)
  all_goals first
    | exact rdf_none (by assumption) (by assumption)
    | exact rdf_up hd (by assumption) (Int.le_of_lt (by assumption)) (if_pos (by assumption)).symm (by assumption)
    | exact rdf_up hd (by assumption) (Int.le_of_lt (by assumption)) (if_neg (by assumption)).symm (by assumption)
    | exact rdf_up hd (by assumption) (Int.le_of_eq (Eq.symm (by assumption))) (if_pos (by assumption)).symm (by assumption)
    | exact rdf_up hd (by assumption) (Int.le_of_eq (Eq.symm (by assumption))) (if_neg (by assumption)).symm (by assumption)
    | exact rdf_down hd (by assumption) (by assumption) (if_pos (by assumption)).symm (by assumption)
    | exact rdf_down hd (by assumption) (by assumption) (if_neg (by assumption)).symm (by assumption)
end
section
local macro_rules | `(tactic| walk_at "mine dummy") => `(tactic| skip)
theorem words_S4 : True := by
  k_with_none
  k_with "mine call" => (k_here; (with_reducible show wpAny _ _ (call (Value.ref 54) [Value.int _ _]) _ _ _); k_dflt (refine' use_int (count_digits_spec _ _ _ _ _ _ _ ) ?k1 ?k2 ?k3 ?k4 ?k5 ?kK ?kd ?ku ?_; walk_at "mine use"); intro _ _ _ _ _; (try dsimp only))
  k_with "mine call" => (k_here; (with_reducible show wpAny _ _ (call (Value.ref 61) [Value.int _ _, Value.int _ _]) _ _ _); k_dflt (refine' use_pair (strip_zeros_spec _ _ _ _ _ _ _ _ _ ) ?k1 ?k2 ?k3 ?k4 ?k5 ?kK ?kd ?ku ?_; walk_at "mine use"); intro _ _ _ _ _ _ _ _ _ _; (try dsimp only))
  k_with "mine call" => (k_here; (with_reducible show wpAny _ _ (call (Value.ref 68) [Value.int _ _, Value.int _ _, Value.int _ _]) _ _ _); k_dflt (refine' use_pair (round_digits_spec _ _ _ _ _ _ _ _ _ _ _ ?g0 ?g1) ?k1 ?k2 ?k3 ?k4 ?k5 ?kK ?kd ?ku ?_; walk_at "mine use"; (case g0 => walk_at "mine pre"); (case g1 => walk_at "mine pre")); intro _ _ _ _ _ _ _ _ _ _; (try dsimp only))
  k_with "mine call" => (k_here; (with_reducible show wpAny _ _ (call (Value.ref 54) [Value.int _ _]) _ _ _); k_dflt (refine' use_int (count_digits_spec _ _ _ _ _ _ _ ) ?k1 ?k2 ?k3 ?k4 ?k5 ?kK ?kd ?ku ?_; walk_at "mine use"); intro _ _ _ _ _; (try dsimp only))
  k_with "mine call" => (k_here; (with_reducible show wpAny _ _ (call (Value.ref 61) [Value.int _ _, Value.int _ _]) _ _ _); k_dflt (refine' use_pair (strip_zeros_spec _ _ _ _ _ _ _ _ _ ) ?k1 ?k2 ?k3 ?k4 ?k5 ?kK ?kd ?ku ?_; walk_at "mine use"); intro _ _ _ _ _ _ _ _ _ _; (try dsimp only))
  k_with "mine call" => (k_here; (with_reducible show wpAny _ _ (call (Value.ref 68) [Value.int _ _, Value.int _ _, Value.int _ _]) _ _ _); k_dflt (refine' use_pair (round_digits_spec _ _ _ _ _ _ _ _ _ _ _ ?g0 ?g1) ?k1 ?k2 ?k3 ?k4 ?k5 ?kK ?kd ?ku ?_; walk_at "mine use"; (case g0 => walk_at "mine pre"); (case g1 => walk_at "mine pre")); intro _ _ _ _ _ _ _ _ _ _; (try dsimp only))
  trivial

set_option maxRecDepth 100000 in
set_option maxHeartbeats 1000000 in
theorem round_real_spec (w : World) (mean : ExcName → Option Value) (mg mb : Str → Option Value) (news : List (Addr × Obj)) (x y d top : Int) (t u v v2 : Tok) (hd : 1 ≤ d) (hx : cd x.natAbs ≤ 900) (hov : cd x.natAbs + y ≤ top) :
    Fn w mean mg mb 75 3 [.int x t, .int y u, .int d v, .int top v2] news (PPair (RR x y d top)) := by
  walk_at "mine start"
  k_steps
  all_goals first
    | (exfalso; exact rr_over (by assumption) (by assumption) (by assumption) hov)
    | walk_at "mine endp"
  · exact rr_zero (by assumption) (by assumption)
  · exact rr_small (by assumption) (by assumption) (by assumption)
  · exact rr_fine (by assumption) (by assumption)
end
section
theorem words_S5 : True := by
  k_with_none
  k_with "mine call" => (k_here; (with_reducible show wpAny _ _ (call (Value.ref 54) [Value.int _ _]) _ _ _); k_dflt (refine' use_int (count_digits_spec _ _ _ _ _ _ _ ) ?k1 ?k2 ?k3 ?k4 ?k5 ?kK ?kd ?ku ?_; walk_at "mine use"); intro _ _ _ _ _; (try dsimp only))
  k_with "mine call" => (k_here; (with_reducible show wpAny _ _ (call (Value.ref 61) [Value.int _ _, Value.int _ _]) _ _ _); k_dflt (refine' use_pair (strip_zeros_spec _ _ _ _ _ _ _ _ _ ) ?k1 ?k2 ?k3 ?k4 ?k5 ?kK ?kd ?ku ?_; walk_at "mine use"); intro _ _ _ _ _ _ _ _ _ _; (try dsimp only))
  k_with "mine call" => (k_here; (with_reducible show wpAny _ _ (call (Value.ref 68) [Value.int _ _, Value.int _ _, Value.int _ _]) _ _ _); k_dflt (refine' use_pair (round_digits_spec _ _ _ _ _ _ _ _ _ _ _ ?g0 ?g1) ?k1 ?k2 ?k3 ?k4 ?k5 ?kK ?kd ?ku ?_; walk_at "mine use"; (case g0 => walk_at "mine pre"); (case g1 => walk_at "mine pre")); intro _ _ _ _ _ _ _ _ _ _; (try dsimp only))
  k_with "mine call" => (k_here; (with_reducible show wpAny _ _ (call (Value.ref 75) [Value.int _ _, Value.int _ _, Value.int _ _, Value.int _ _]) _ _ _); k_dflt (refine' use_pair (round_real_spec _ _ _ _ _ _ _ _ _ _ _ _ _ ?g0 ?g1 ?g2) ?k1 ?k2 ?k3 ?k4 ?k5 ?kK ?kd ?ku ?_; walk_at "mine use"; (case g0 => walk_at "mine pre"); (case g1 => walk_at "mine pre"); (case g2 => walk_at "mine pre")); intro _ _ _ _ _ _ _ _ _ _; (try dsimp only))
  trivial
set_option maxRecDepth 100000 in
set_option maxHeartbeats 1000000 in
theorem lead_of_spec (w : World) (mean : ExcName → Option Value) (mg mb : Str → Option Value) (news : List (Addr × Obj)) (D : Addr) (a b : Int) (hp : PairIn news D a b) :
    Fn w mean mg mb 117 2 [.ref D] news (PInt (cd a.natAbs + b)) := by
  walk_at "mine start"
  k_steps
  all_goals (refine end_int (by assumption) (by assumption) (by assumption) (by walk_at "mine sub") rfl)
set_option maxRecDepth 100000 in
set_option maxHeartbeats 1000000 in
theorem exact_mul_spec (w : World) (mean : ExcName → Option Value) (mg mb : Str → Option Value) (news : List (Addr × Obj)) (D C : Addr) (a b c d : Int) (hp : PairIn news D a b) (hq : PairIn news C c d) (hm : IntMulOk a c) :
    Fn w mean mg mb 89 1 [.ref D, .ref C] news (PPairE (a * c) (b + d)) := by
  walk_at "mine start"
  k_steps
  all_goals walk_at "mine endE"
set_option maxRecDepth 100000 in
set_option maxHeartbeats 1000000 in
theorem real_neg_spec (w : World) (mean : ExcName → Option Value) (mg mb : Str → Option Value) (news : List (Addr × Obj)) (D : Addr) (a b : Int) (hp : PairIn news D a b) :
    Fn w mean mg mb 96 1 [.ref D] news (PPairE (-a) b) := by
  walk_at "mine start"
  k_steps
  all_goals walk_at "mine endE"
set_option maxRecDepth 100000 in
set_option maxHeartbeats 1000000 in
theorem halved_spec (w : World) (mean : ExcName → Option Value) (mg mb : Str → Option Value) (news : List (Addr × Obj)) (D : Addr) (a b : Int) (hp : PairIn news D a b) :
    Fn w mean mg mb 313 1 [.ref D] news (PPairE (a * 5) (b - 1)) := by
  walk_at "mine start"
  k_steps
  all_goals walk_at "mine endE"
set_option maxRecDepth 100000 in
set_option maxHeartbeats 1000000 in
theorem wide_top_spec (w : World) (mean : ExcName → Option Value) (mg mb : Str → Option Value) (news : List (Addr × Obj)) (x : Int) (t : Tok) :
    Fn w mean mg mb 292 1 [.int x t] news (PInt (4 * x + 100)) := by
  walk_at "mine start"
  k_steps
  all_goals (refine end_int (by assumption) (by assumption) (by assumption) (by walk_at "mine sub") rfl)
end
section
local macro_rules | `(tactic| walk_at "mine dummy") => `(tactic| skip)
theorem words_S6 : True := by
  k_with_none
  k_with "mine call" => (k_here; (with_reducible show wpAny _ _ (call (Value.ref 54) [Value.int _ _]) _ _ _); k_dflt (refine' use_int (count_digits_spec _ _ _ _ _ _ _ ) ?k1 ?k2 ?k3 ?k4 ?k5 ?kK ?kd ?ku ?_; walk_at "mine use"); intro _ _ _ _ _; (try dsimp only))
  k_with "mine call" => (k_here; (with_reducible show wpAny _ _ (call (Value.ref 61) [Value.int _ _, Value.int _ _]) _ _ _); k_dflt (refine' use_pair (strip_zeros_spec _ _ _ _ _ _ _ _ _ ) ?k1 ?k2 ?k3 ?k4 ?k5 ?kK ?kd ?ku ?_; walk_at "mine use"); intro _ _ _ _ _ _ _ _ _ _; (try dsimp only))
  k_with "mine call" => (k_here; (with_reducible show wpAny _ _ (call (Value.ref 68) [Value.int _ _, Value.int _ _, Value.int _ _]) _ _ _); k_dflt (refine' use_pair (round_digits_spec _ _ _ _ _ _ _ _ _ _ _ ?g0 ?g1) ?k1 ?k2 ?k3 ?k4 ?k5 ?kK ?kd ?ku ?_; walk_at "mine use"; (case g0 => walk_at "mine pre"); (case g1 => walk_at "mine pre")); intro _ _ _ _ _ _ _ _ _ _; (try dsimp only))
  k_with "mine call" => (k_here; (with_reducible show wpAny _ _ (call (Value.ref 75) [Value.int _ _, Value.int _ _, Value.int _ _, Value.int _ _]) _ _ _); k_dflt (refine' use_pair (round_real_spec _ _ _ _ _ _ _ _ _ _ _ _ _ ?g0 ?g1 ?g2) ?k1 ?k2 ?k3 ?k4 ?k5 ?kK ?kd ?ku ?_; walk_at "mine use"; (case g0 => walk_at "mine pre"); (case g1 => walk_at "mine pre"); (case g2 => walk_at "mine pre")); intro _ _ _ _ _ _ _ _ _ _; (try dsimp only))
  k_with "mine call" => (k_here; (with_reducible show wpAny _ _ (call (Value.ref 117) [Value.ref _]) _ _ _); k_dflt (refine' use_int (lead_of_spec _ _ _ _ _ _ _ _ ?g0) ?k1 ?k2 ?k3 ?k4 ?k5 ?kK ?kd ?ku ?_; walk_at "mine use"; (case g0 => walk_at "mine pair")); intro _ _ _ _ _; (try dsimp only))
  k_with "mine call" => (k_here; (with_reducible show wpAny _ _ (call (Value.ref 89) [Value.ref _, Value.ref _]) _ _ _); k_dflt (refine' use_pairE (exact_mul_spec _ _ _ _ _ _ _ _ _ _ _ ?g0 ?g1 ?g2) ?k1 ?k2 ?k3 ?k4 ?k5 ?kK ?kd ?ku ?_; walk_at "mine use"; (case g0 => walk_at "mine pair"); (case g1 => walk_at "mine pair"); (case g2 => walk_at "mine ok")); intro _ _ _ _ _ _ _; (try dsimp only))
  k_with "mine call" => (k_here; (with_reducible show wpAny _ _ (call (Value.ref 96) [Value.ref _]) _ _ _); k_dflt (refine' use_pairE (real_neg_spec _ _ _ _ _ _ _ _ ?g0) ?k1 ?k2 ?k3 ?k4 ?k5 ?kK ?kd ?ku ?_; walk_at "mine use"; (case g0 => walk_at "mine pair")); intro _ _ _ _ _ _ _; (try dsimp only))
  k_with "mine call" => (k_here; (with_reducible show wpAny _ _ (call (Value.ref 313) [Value.ref _]) _ _ _); k_dflt (refine' use_pairE (halved_spec _ _ _ _ _ _ _ _ ?g0) ?k1 ?k2 ?k3 ?k4 ?k5 ?kK ?kd ?ku ?_; walk_at "mine use"; (case g0 => walk_at "mine pair")); intro _ _ _ _ _ _ _; (try dsimp only))
  k_with "mine call" => (k_here; (with_reducible show wpAny _ _ (call (Value.ref 292) [Value.int _ _]) _ _ _); k_dflt (refine' use_int (wide_top_spec _ _ _ _ _ _ _ ) ?k1 ?k2 ?k3 ?k4 ?k5 ?kK ?kd ?ku ?_; walk_at "mine use"); intro _ _ _ _ _; (try dsimp only))
  trivial
theorem max_if (c d : Int) : (if c > d then c else d) = max d c := by split <;> omega
set_option maxRecDepth 100000 in
set_option maxHeartbeats 1000000 in
theorem exact_add_spec (w : World) (mean : ExcName → Option Value) (mg mb : Str → Option Value) (news : List (Addr × Obj)) (D C : Addr) (a b c d : Int) (hp : PairIn news D a b) (hq : PairIn news C c d) (h0 : a = 0 ∨ c = 0) :
    Fn w mean mg mb 82 1 [.ref D, .ref C] news (PPair fun p q => (a = 0 → p = c ∧ q = d) ∧ (a ≠ 0 → p = a ∧ q = b)) := by
  walk_at "mine start"
  by_cases ha : a = 0
  · k_steps
    all_goals walk_at "mine endp"
    all_goals exact ⟨fun _ => ⟨rfl, rfl⟩, fun h => absurd ha h⟩
  · have hc : c = 0 := h0.resolve_left ha
    k_steps
    all_goals walk_at "mine endp"
    all_goals exact ⟨fun h => absurd h ha, fun _ => ⟨rfl, rfl⟩⟩
set_option maxRecDepth 100000 in
set_option maxHeartbeats 1000000 in
theorem places_for_spec (w : World) (mean : ExcName → Option Value) (mg mb : Str → Option Value) (news : List (Addr × Obj)) (D : Addr) (a b d : Int) (t : Tok) (hp : PairIn news D a b) :
    Fn w mean mg mb 124 3 [.ref D, .int d t] news (PInt (d + max d (cd a.natAbs) + 10 + max 0 (cd a.natAbs + b))) := by
  walk_at "mine start"
  k_steps
  all_goals (refine end_int (by assumption) (by assumption) (by assumption) (by walk_at "mine sub") (by rw [max_if, max_if]))
set_option maxRecDepth 100000 in
set_option maxHeartbeats 1000000 in
theorem is_tiny_spec (w : World) (mean : ExcName → Option Value) (mg mb : Str → Option Value) (news : List (Addr × Obj)) (D : Addr) (a b d : Int) (t : Tok) (hp : PairIn news D a b) :
    Fn w mean mg mb 229 3 [.ref D, .int d t] news (PBool (decide (a = 0 ∨ cd a.natAbs + b < -d))) := by
  walk_at "mine start"
  k_steps
  all_goals (refine end_bool (by assumption) (by assumption) (by assumption) (by walk_at "mine sub") ?_)
  · have h : a = 0 := by assumption
    subst h
    simp
  · have h : a ≠ 0 := by assumption
    simp [h]
set_option maxRecDepth 100000 in
set_option maxHeartbeats 1000000 in
theorem fixed_spec (w : World) (mean : ExcName → Option Value) (mg mb : Str → Option Value) (news : List (Addr × Obj)) (D : Addr) (a b d : Int) (t : Tok) (hp : PairIn news D a b) (h0 : 0 ≤ b + d) (h1 : b + d ≤ 900) (hm : IntMulOk a (10 ^ (b + d).toNat)) :
    Fn w mean mg mb 131 1 [.ref D, .int d t] news (PInt (a * 10 ^ (b + d).toNat)) := by
  walk_at "mine start"
  k_steps
  all_goals (refine end_int (by assumption) (by assumption) (by assumption) (by walk_at "mine sub") rfl)
set_option maxRecDepth 100000 in
set_option maxHeartbeats 1000000 in
theorem is_nought_spec (w : World) (mean : ExcName → Option Value) (mg mb : Str → Option Value) (news : List (Addr × Obj)) (Z D C : Addr) (k : Nat) (a b c d : Int) (hz : (Z, refsObj D C k) ∈ news) (hp : PairIn news D a b) (hq : PairIn news C c d) :
    Fn w mean mg mb 306 1 [.ref Z] news (PBool (decide (a = 0 ∧ c = 0))) := by
  walk_at "mine start"
  k_steps
  all_goals (refine end_bool (by assumption) (by assumption) (by assumption) (by walk_at "mine sub") ?_)
  · have h : a = 0 := by assumption
    subst h
    by_cases hc : c = 0 <;> simp [hc]
  · have h : a ≠ 0 := by assumption
    simp [h]
set_option maxRecDepth 100000 in
set_option maxHeartbeats 1000000 in
theorem check_positive_spec (w : World) (mean : ExcName → Option Value) (mg mb : Str → Option Value) (news : List (Addr × Obj)) (D : Addr) (a b : Int) (hp : PairIn news D a b) (h : 0 < a) :
    Fn w mean mg mb 201 1 [.ref D] news PNone := by
  walk_at "mine start"
  k_steps
  all_goals (refine end_none (by assumption) (by assumption) (by assumption) (by walk_at "mine sub"))
end
section
theorem words_S7 : True := by
  k_with_none
  k_with "mine call" => (k_here; (with_reducible show wpAny _ _ (call (Value.ref 54) [Value.int _ _]) _ _ _); k_dflt (refine' use_int (count_digits_spec _ _ _ _ _ _ _ ) ?k1 ?k2 ?k3 ?k4 ?k5 ?kK ?kd ?ku ?_; walk_at "mine use"); intro _ _ _ _ _; (try dsimp only))
  k_with "mine call" => (k_here; (with_reducible show wpAny _ _ (call (Value.ref 61) [Value.int _ _, Value.int _ _]) _ _ _); k_dflt (refine' use_pair (strip_zeros_spec _ _ _ _ _ _ _ _ _ ) ?k1 ?k2 ?k3 ?k4 ?k5 ?kK ?kd ?ku ?_; walk_at "mine use"); intro _ _ _ _ _ _ _ _ _ _; (try dsimp only))
  k_with "mine call" => (k_here; (with_reducible show wpAny _ _ (call (Value.ref 68) [Value.int _ _, Value.int _ _, Value.int _ _]) _ _ _); k_dflt (refine' use_pair (round_digits_spec _ _ _ _ _ _ _ _ _ _ _ ?g0 ?g1) ?k1 ?k2 ?k3 ?k4 ?k5 ?kK ?kd ?ku ?_; walk_at "mine use"; (case g0 => walk_at "mine pre"); (case g1 => walk_at "mine pre")); intro _ _ _ _ _ _ _ _ _ _; (try dsimp only))
  k_with "mine call" => (k_here; (with_reducible show wpAny _ _ (call (Value.ref 75) [Value.int _ _, Value.int _ _, Value.int _ _, Value.int _ _]) _ _ _); k_dflt (refine' use_pair (round_real_spec _ _ _ _ _ _ _ _ _ _ _ _ _ ?g0 ?g1 ?g2) ?k1 ?k2 ?k3 ?k4 ?k5 ?kK ?kd ?ku ?_; walk_at "mine use"; (case g0 => walk_at "mine pre"); (case g1 => walk_at "mine pre"); (case g2 => walk_at "mine pre")); intro _ _ _ _ _ _ _ _ _ _; (try dsimp only))
  k_with "mine call" => (k_here; (with_reducible show wpAny _ _ (call (Value.ref 117) [Value.ref _]) _ _ _); k_dflt (refine' use_int (lead_of_spec _ _ _ _ _ _ _ _ ?g0) ?k1 ?k2 ?k3 ?k4 ?k5 ?kK ?kd ?ku ?_; walk_at "mine use"; (case g0 => walk_at "mine pair")); intro _ _ _ _ _; (try dsimp only))
  k_with "mine call" => (k_here; (with_reducible show wpAny _ _ (call (Value.ref 89) [Value.ref _, Value.ref _]) _ _ _); k_dflt (refine' use_pairE (exact_mul_spec _ _ _ _ _ _ _ _ _ _ _ ?g0 ?g1 ?g2) ?k1 ?k2 ?k3 ?k4 ?k5 ?kK ?kd ?ku ?_; walk_at "mine use"; (case g0 => walk_at "mine pair"); (case g1 => walk_at "mine pair"); (case g2 => walk_at "mine ok")); intro _ _ _ _ _ _ _; (try dsimp only))
  k_with "mine call" => (k_here; (with_reducible show wpAny _ _ (call (Value.ref 96) [Value.ref _]) _ _ _); k_dflt (refine' use_pairE (real_neg_spec _ _ _ _ _ _ _ _ ?g0) ?k1 ?k2 ?k3 ?k4 ?k5 ?kK ?kd ?ku ?_; walk_at "mine use"; (case g0 => walk_at "mine pair")); intro _ _ _ _ _ _ _; (try dsimp only))
  k_with "mine call" => (k_here; (with_reducible show wpAny _ _ (call (Value.ref 313) [Value.ref _]) _ _ _); k_dflt (refine' use_pairE (halved_spec _ _ _ _ _ _ _ _ ?g0) ?k1 ?k2 ?k3 ?k4 ?k5 ?kK ?kd ?ku ?_; walk_at "mine use"; (case g0 => walk_at "mine pair")); intro _ _ _ _ _ _ _; (try dsimp only))
  k_with "mine call" => (k_here; (with_reducible show wpAny _ _ (call (Value.ref 292) [Value.int _ _]) _ _ _); k_dflt (refine' use_int (wide_top_spec _ _ _ _ _ _ _ ) ?k1 ?k2 ?k3 ?k4 ?k5 ?kK ?kd ?ku ?_; walk_at "mine use"); intro _ _ _ _ _; (try dsimp only))
  k_with "mine call" => (k_here; (with_reducible show wpAny _ _ (call (Value.ref 82) [Value.ref _, Value.ref _]) _ _ _); k_dflt (refine' use_pair (exact_add_spec _ _ _ _ _ _ _ _ _ _ _ ?g0 ?g1 ?g2) ?k1 ?k2 ?k3 ?k4 ?k5 ?kK ?kd ?ku ?_; walk_at "mine use"; (case g0 => walk_at "mine pair"); (case g1 => walk_at "mine pair"); (case g2 => walk_at "mine pre")); intro _ _ _ _ _ _ _ _ _ _; (try dsimp only))
  k_with "mine call" => (k_here; (with_reducible show wpAny _ _ (call (Value.ref 124) [Value.ref _, Value.int _ _]) _ _ _); k_dflt (refine' use_int (places_for_spec _ _ _ _ _ _ _ _ _ _ ?g0) ?k1 ?k2 ?k3 ?k4 ?k5 ?kK ?kd ?ku ?_; walk_at "mine use"; (case g0 => walk_at "mine pair")); intro _ _ _ _ _; (try dsimp only))
  k_with "mine call" => (k_here; (with_reducible show wpAny _ _ (call (Value.ref 229) [Value.ref _, Value.int _ _]) _ _ _); k_dflt (refine' use_bool (is_tiny_spec _ _ _ _ _ _ _ _ _ _ ?g0) ?k1 ?k2 ?k3 ?k4 ?k5 ?kK ?kd ?ku ?_; walk_at "mine use"; (case g0 => walk_at "mine pair")); intro _ _ _ _; (try dsimp only))
  k_with "mine call" => (k_here; (with_reducible show wpAny _ _ (call (Value.ref 131) [Value.ref _, Value.int _ _]) _ _ _); k_dflt (refine' use_int (fixed_spec _ _ _ _ _ _ _ _ _ _ ?g0 ?g1 ?g2 ?g3) ?k1 ?k2 ?k3 ?k4 ?k5 ?kK ?kd ?ku ?_; walk_at "mine use"; (case g0 => walk_at "mine pair"); (case g1 => walk_at "mine pre"); (case g2 => walk_at "mine pre"); (case g3 => walk_at "mine ok")); intro _ _ _ _ _; (try dsimp only))
  k_with "mine call" => (k_here; (with_reducible show wpAny _ _ (call (Value.ref 306) [Value.ref _]) _ _ _); k_dflt (refine' use_bool (is_nought_spec _ _ _ _ _ _ _ _ _ _ _ _ _ ?g0 ?g1 ?g2) ?k1 ?k2 ?k3 ?k4 ?k5 ?kK ?kd ?ku ?_; walk_at "mine use"; (case g0 => walk_at "mine mem"); (case g1 => walk_at "mine pair"); (case g2 => walk_at "mine pair")); intro _ _ _ _; (try dsimp only))
  k_with "mine call" => (k_here; (with_reducible show wpAny _ _ (call (Value.ref 201) [Value.ref _]) _ _ _); k_dflt (refine' use_none (check_positive_spec _ _ _ _ _ _ _ _ ?g0 ?g1) ?k1 ?k2 ?k3 ?k4 ?k5 ?kK ?kd ?ku ?_; walk_at "mine use"; (case g0 => walk_at "mine pair"); (case g1 => walk_at "mine pre")); intro _ _ _ _; (try dsimp only))
  trivial
/-- the series' loop: fuel, square of the divisor, turn; term, total, sign, n -/
def invL : Nat → Nat → Int → Nat → Int → Int → Nat → Int
  | 0, _, _, _, total, _, _ => total
  | f + 1, dd, turn, term, total, sign, n => if term = 0 then total else invL f dd turn (term / dd) (total + sign * ((term / n : Nat) : Int)) (sign * turn) (n + 2)
def inv (d p turn : Int) : Int := invL (4 * p.toNat + 4) (d * d).toNat turn (10 ^ p.toNat / d.toNat) 0 1 1
def InvI (dd : Nat) (turn R term total sign n : Int) : Prop := ∃ f : Nat, term.toNat < 2 ^ f ∧ n + 2 * f ≤ 20000 ∧ invL f dd turn term.toNat total sign n.toNat = R
theorem inv_start {d p turn : Int} (hd : 2 ≤ d) (hd2 : d ≤ 1000) (hp : 0 ≤ p) (hp2 : p ≤ 900) :
    (-1 : Int) ≤ 1 ∧ (1 : Int) ≤ 1 ∧ (1 : Int) ≤ 1 ∧ (1 : Int) ≤ 20000 ∧ 0 ≤ (10 ^ p.toNat : Int).fdiv d ∧ InvI (d * d).toNat turn (inv d p turn) ((10 ^ p.toNat : Int).fdiv d) 0 1 1 := by
  have e : (10 ^ p.toNat : Int).fdiv d = ((10 ^ p.toNat / d.toNat : Nat) : Int) := by
    obtain ⟨k, rfl⟩ := Int.eq_ofNat_of_zero_le (show 0 ≤ d by omega)
    rw [tenp, Int.fdiv_eq_ediv_of_nonneg _ (Int.natCast_nonneg _), Int.natCast_ediv, Int.toNat_natCast]
  refine ⟨by omega, by omega, by omega, by omega, by rw [e]; exact Int.natCast_nonneg _, 4 * p.toNat + 4, ?_, by omega, ?_⟩
  · rw [e, Int.toNat_natCast]
    refine Nat.lt_of_le_of_lt (Nat.div_le_self _ _) ?_
    have h1 : 10 ^ p.toNat ≤ 16 ^ p.toNat := Nat.pow_le_pow_left (by omega) _
    have h2 : (16 : Nat) ^ p.toNat = 2 ^ (4 * p.toNat) := by rw [Nat.pow_mul]
    have h3 : (2 : Nat) ^ (4 * p.toNat) < 2 ^ (4 * p.toNat + 4) := Nat.pow_lt_pow_right (by omega) (by omega)
    omega
  · rw [e, Int.toNat_natCast]; rfl
theorem inv_turn {d turn R term total sign n : Int} (hd : 2 ≤ d) (ht : turn = 1 ∨ turn = -1) (h1 : -1 ≤ sign) (h2 : sign ≤ 1) (h3 : 1 ≤ n) (h5 : 0 < term) (h : InvI (d * d).toNat turn R term total sign n) :
    -1 ≤ sign * turn ∧ sign * turn ≤ 1 ∧ 1 ≤ n + 2 ∧ n + 2 ≤ 20000 ∧ 0 ≤ term.fdiv (d * d) ∧ InvI (d * d).toNat turn R (term.fdiv (d * d)) (total + sign * term.fdiv n) (sign * turn) (n + 2) := by
  obtain ⟨f, g1, g2, g3⟩ := h
  obtain ⟨k, rfl⟩ := Int.eq_ofNat_of_zero_le (show 0 ≤ d by omega)
  obtain ⟨t, rfl⟩ := Int.eq_ofNat_of_zero_le (show 0 ≤ term by omega)
  obtain ⟨q, rfl⟩ := Int.eq_ofNat_of_zero_le (show 0 ≤ n by omega)
  have e1 : (t : Int).fdiv ((k : Int) * k) = ((t / (k * k) : Nat) : Int) := by
    rw [← Int.natCast_mul, Int.fdiv_eq_ediv_of_nonneg _ (Int.natCast_nonneg _), Int.natCast_ediv]
  have e2 : (t : Int).fdiv (q : Int) = ((t / q : Nat) : Int) := by
    rw [Int.fdiv_eq_ediv_of_nonneg _ (Int.natCast_nonneg _), Int.natCast_ediv]
  have e3 : ((k : Int) * k).toNat = k * k := by rw [← Int.natCast_mul, Int.toNat_natCast]
  rw [Int.toNat_natCast] at g1 g3
  rw [Int.toNat_natCast, e3] at g3
  obtain ⟨f', rfl⟩ : ∃ f', f = f' + 1 := ⟨f - 1, by
    rcases f with _ | f
    · simp at g1; omega
    · rfl⟩
  have hs : -1 ≤ sign * turn ∧ sign * turn ≤ 1 := by rcases ht with rfl | rfl <;> omega
  have hkk : 2 ≤ k * k := by
    have : 2 * 2 ≤ k * k := Nat.mul_le_mul (by omega) (by omega)
    omega
  refine ⟨hs.1, hs.2, by omega, by omega, by rw [e1]; exact Int.natCast_nonneg _, f', ?_, by omega, ?_⟩
  · rw [e1, Int.toNat_natCast]
    rw [Nat.pow_succ] at g1
    exact (Nat.div_lt_iff_lt_mul (by omega)).mpr (Nat.lt_of_lt_of_le g1 (Nat.mul_le_mul_left _ hkk))
  · rw [e1, e2, Int.toNat_natCast, e3, show ((q : Int) + 2).toNat = q + 2 by (clear hkk hs g3 g2 g1 e3 e2 e1 h5 hd h2 h1 ht; omega)]
    rw [invL, if_neg (by omega)] at g3
    exact g3
theorem inv_meas {d term : Int} (hd : 2 ≤ d) (h : 0 < term) : (term.fdiv (d * d)).toNat < term.toNat := by
  obtain ⟨k, rfl⟩ := Int.eq_ofNat_of_zero_le (show 0 ≤ d by omega)
  obtain ⟨t, rfl⟩ := Int.eq_ofNat_of_zero_le (show 0 ≤ term by omega)
  have e1 : (t : Int).fdiv ((k : Int) * k) = ((t / (k * k) : Nat) : Int) := by
    rw [← Int.natCast_mul, Int.fdiv_eq_ediv_of_nonneg _ (Int.natCast_nonneg _), Int.natCast_ediv]
  have hkk : 2 ≤ k * k := by
    have : 2 * 2 ≤ k * k := Nat.mul_le_mul (by omega) (by omega)
    omega
  rw [e1, Int.toNat_natCast, Int.toNat_natCast]
  exact Nat.div_lt_self (by omega) (by omega)
theorem inv_end {dd : Nat} {turn R term total sign n : Int} (h0 : 0 ≤ term) (h1 : ¬ 0 < term) (h : InvI dd turn R term total sign n) : total = R := by
  obtain ⟨f, g1, g2, g3⟩ := h
  have : term = 0 := by omega
  subst this
  rcases f with _ | f
  · exact g3
  · rw [Int.toNat_zero, invL, if_pos rfl] at g3
    exact g3
theorem dd_ne {d : Int} (hd : 2 ≤ d) : d * d ≠ 0 := by
  have : 0 < d * d := Int.mul_pos (by omega) (by omega)
  omega
theorem sm_int {x : Int} (h1 : -(10 ^ 18 : Int) < x) (h2 : x < 10 ^ 18) : Sm x := by
  have : x.natAbs < 10 ^ 18 := by omega
  exact Nat.lt_of_lt_of_le this (Nat.pow_le_pow_right (by decide) (by decide))
theorem sm_dd {d : Int} (h1 : 0 ≤ d) (h2 : d ≤ 1000) : Sm (d * d) := by
  have : d * d ≤ 1000 * 1000 := Int.mul_le_mul h2 h2 h1 (by omega)
  have : 0 ≤ d * d := Int.mul_nonneg h1 h1
  exact sm_int (by omega) (by omega)
def halfTurn (p : Int) : Int := (48 * inv 18 (p + 5) (-1) + 32 * inv 57 (p + 5) (-1) - 20 * inv 239 (p + 5) (-1)).fdiv 100000
set_option maxRecDepth 100000 in
set_option maxHeartbeats 1000000 in
theorem inverse_series_spec (w : World) (mean : ExcName → Option Value) (mg mb : Str → Option Value) (news : List (Addr × Obj)) (d p g : Int) (t u v : Tok) (hd : 2 ≤ d) (hd2 : d ≤ 1000) (hp : 0 ≤ p ∧ p ≤ 900) (hg : g = 1 ∨ g = -1) :
    Fn w mean mg mb 145 1 [.int d t, .int p u, .int g v] news (PInt (inv d p g)) := by
  obtain ⟨hp1, hp2⟩ := hp
  have hdd := dd_ne hd
  have hsd := sm_dd (show 0 ≤ d by omega) hd2
  walk_at "mine start"
  k_with "exec While Compare cons nil" => k_while (fun _ term total sign n => -1 ≤ sign ∧ sign ≤ 1 ∧ 1 ≤ n ∧ n ≤ 20000 ∧ 0 ≤ term ∧ InvI (d * d).toNat g (inv d p g) term total sign n) (fun _ term _ _ _ => term.toNat) "term" "total" "sign" "n"
  k_with "state" => first
    | exact inv_start (by assumption) (by assumption) (by assumption) (by assumption)
    | exact inv_turn (by assumption) (by assumption) (by assumption) (by assumption) (by assumption) (by assumption) (by assumption)
  k_with "measure" => exact inv_meas (by assumption) (by assumption)
  k_with "mine sm" => exact sm_int (by omega) (by omega)
  k_steps
  all_goals (refine end_int (by assumption) (by assumption) (by assumption) (by walk_at "mine sub") (inv_end (by assumption) (by assumption) (by assumption)))
end
section
local macro_rules | `(tactic| walk_at "mine dummy") => `(tactic| skip)
theorem words_S8 : True := by
  k_with_none
  k_with "mine call" => (k_here; (with_reducible show wpAny _ _ (call (Value.ref 54) [Value.int _ _]) _ _ _); k_dflt (refine' use_int (count_digits_spec _ _ _ _ _ _ _ ) ?k1 ?k2 ?k3 ?k4 ?k5 ?kK ?kd ?ku ?_; walk_at "mine use"); intro _ _ _ _ _; (try dsimp only))
  k_with "mine call" => (k_here; (with_reducible show wpAny _ _ (call (Value.ref 61) [Value.int _ _, Value.int _ _]) _ _ _); k_dflt (refine' use_pair (strip_zeros_spec _ _ _ _ _ _ _ _ _ ) ?k1 ?k2 ?k3 ?k4 ?k5 ?kK ?kd ?ku ?_; walk_at "mine use"); intro _ _ _ _ _ _ _ _ _ _; (try dsimp only))
  k_with "mine call" => (k_here; (with_reducible show wpAny _ _ (call (Value.ref 68) [Value.int _ _, Value.int _ _, Value.int _ _]) _ _ _); k_dflt (refine' use_pair (round_digits_spec _ _ _ _ _ _ _ _ _ _ _ ?g0 ?g1) ?k1 ?k2 ?k3 ?k4 ?k5 ?kK ?kd ?ku ?_; walk_at "mine use"; (case g0 => walk_at "mine pre"); (case g1 => walk_at "mine pre")); intro _ _ _ _ _ _ _ _ _ _; (try dsimp only))
  k_with "mine call" => (k_here; (with_reducible show wpAny _ _ (call (Value.ref 75) [Value.int _ _, Value.int _ _, Value.int _ _, Value.int _ _]) _ _ _); k_dflt (refine' use_pair (round_real_spec _ _ _ _ _ _ _ _ _ _ _ _ _ ?g0 ?g1 ?g2) ?k1 ?k2 ?k3 ?k4 ?k5 ?kK ?kd ?ku ?_; walk_at "mine use"; (case g0 => walk_at "mine pre"); (case g1 => walk_at "mine pre"); (case g2 => walk_at "mine pre")); intro _ _ _ _ _ _ _ _ _ _; (try dsimp only))
  k_with "mine call" => (k_here; (with_reducible show wpAny _ _ (call (Value.ref 117) [Value.ref _]) _ _ _); k_dflt (refine' use_int (lead_of_spec _ _ _ _ _ _ _ _ ?g0) ?k1 ?k2 ?k3 ?k4 ?k5 ?kK ?kd ?ku ?_; walk_at "mine use"; (case g0 => walk_at "mine pair")); intro _ _ _ _ _; (try dsimp only))
  k_with "mine call" => (k_here; (with_reducible show wpAny _ _ (call (Value.ref 89) [Value.ref _, Value.ref _]) _ _ _); k_dflt (refine' use_pairE (exact_mul_spec _ _ _ _ _ _ _ _ _ _ _ ?g0 ?g1 ?g2) ?k1 ?k2 ?k3 ?k4 ?k5 ?kK ?kd ?ku ?_; walk_at "mine use"; (case g0 => walk_at "mine pair"); (case g1 => walk_at "mine pair"); (case g2 => walk_at "mine ok")); intro _ _ _ _ _ _ _; (try dsimp only))
  k_with "mine call" => (k_here; (with_reducible show wpAny _ _ (call (Value.ref 96) [Value.ref _]) _ _ _); k_dflt (refine' use_pairE (real_neg_spec _ _ _ _ _ _ _ _ ?g0) ?k1 ?k2 ?k3 ?k4 ?k5 ?kK ?kd ?ku ?_; walk_at "mine use"; (case g0 => walk_at "mine pair")); intro _ _ _ _ _ _ _; (try dsimp only))
  k_with "mine call" => (k_here; (with_reducible show wpAny _ _ (call (Value.ref 313) [Value.ref _]) _ _ _); k_dflt (refine' use_pairE (halved_spec _ _ _ _ _ _ _ _ ?g0) ?k1 ?k2 ?k3 ?k4 ?k5 ?kK ?kd ?ku ?_; walk_at "mine use"; (case g0 => walk_at "mine pair")); intro _ _ _ _ _ _ _; (try dsimp only))
  k_with "mine call" => (k_here; (with_reducible show wpAny _ _ (call (Value.ref 292) [Value.int _ _]) _ _ _); k_dflt (refine' use_int (wide_top_spec _ _ _ _ _ _ _ ) ?k1 ?k2 ?k3 ?k4 ?k5 ?kK ?kd ?ku ?_; walk_at "mine use"); intro _ _ _ _ _; (try dsimp only))
  k_with "mine call" => (k_here; (with_reducible show wpAny _ _ (call (Value.ref 82) [Value.ref _, Value.ref _]) _ _ _); k_dflt (refine' use_pair (exact_add_spec _ _ _ _ _ _ _ _ _ _ _ ?g0 ?g1 ?g2) ?k1 ?k2 ?k3 ?k4 ?k5 ?kK ?kd ?ku ?_; walk_at "mine use"; (case g0 => walk_at "mine pair"); (case g1 => walk_at "mine pair"); (case g2 => walk_at "mine pre")); intro _ _ _ _ _ _ _ _ _ _; (try dsimp only))
  k_with "mine call" => (k_here; (with_reducible show wpAny _ _ (call (Value.ref 124) [Value.ref _, Value.int _ _]) _ _ _); k_dflt (refine' use_int (places_for_spec _ _ _ _ _ _ _ _ _ _ ?g0) ?k1 ?k2 ?k3 ?k4 ?k5 ?kK ?kd ?ku ?_; walk_at "mine use"; (case g0 => walk_at "mine pair")); intro _ _ _ _ _; (try dsimp only))
  k_with "mine call" => (k_here; (with_reducible show wpAny _ _ (call (Value.ref 229) [Value.ref _, Value.int _ _]) _ _ _); k_dflt (refine' use_bool (is_tiny_spec _ _ _ _ _ _ _ _ _ _ ?g0) ?k1 ?k2 ?k3 ?k4 ?k5 ?kK ?kd ?ku ?_; walk_at "mine use"; (case g0 => walk_at "mine pair")); intro _ _ _ _; (try dsimp only))
  k_with "mine call" => (k_here; (with_reducible show wpAny _ _ (call (Value.ref 131) [Value.ref _, Value.int _ _]) _ _ _); k_dflt (refine' use_int (fixed_spec _ _ _ _ _ _ _ _ _ _ ?g0 ?g1 ?g2 ?g3) ?k1 ?k2 ?k3 ?k4 ?k5 ?kK ?kd ?ku ?_; walk_at "mine use"; (case g0 => walk_at "mine pair"); (case g1 => walk_at "mine pre"); (case g2 => walk_at "mine pre"); (case g3 => walk_at "mine ok")); intro _ _ _ _ _; (try dsimp only))
  k_with "mine call" => (k_here; (with_reducible show wpAny _ _ (call (Value.ref 306) [Value.ref _]) _ _ _); k_dflt (refine' use_bool (is_nought_spec _ _ _ _ _ _ _ _ _ _ _ _ _ ?g0 ?g1 ?g2) ?k1 ?k2 ?k3 ?k4 ?k5 ?kK ?kd ?ku ?_; walk_at "mine use"; (case g0 => walk_at "mine mem"); (case g1 => walk_at "mine pair"); (case g2 => walk_at "mine pair")); intro _ _ _ _; (try dsimp only))
  k_with "mine call" => (k_here; (with_reducible show wpAny _ _ (call (Value.ref 201) [Value.ref _]) _ _ _); k_dflt (refine' use_none (check_positive_spec _ _ _ _ _ _ _ _ ?g0 ?g1) ?k1 ?k2 ?k3 ?k4 ?k5 ?kK ?kd ?ku ?_; walk_at "mine use"; (case g0 => walk_at "mine pair"); (case g1 => walk_at "mine pre")); intro _ _ _ _; (try dsimp only))
  k_with "mine call" => (k_here; (with_reducible show wpAny _ _ (call (Value.ref 145) [Value.int _ _, Value.int _ _, Value.int _ _]) _ _ _); k_dflt (refine' use_int (inverse_series_spec _ _ _ _ _ _ _ _ _ _ _ ?g0 ?g1 ?g2 ?g3) ?k1 ?k2 ?k3 ?k4 ?k5 ?kK ?kd ?ku ?_; walk_at "mine use"; (case g0 => walk_at "mine pre"); (case g1 => walk_at "mine pre"); (case g2 => walk_at "mine pre"); (case g3 => walk_at "mine pre")); intro _ _ _ _ _; (try dsimp only))
  k_with "mine call" => (k_here; (with_reducible show wpAny _ _ (call (Value.ref 145) [Value.int _ _, Value.int _ _, Value.int _ _]) _ _ _); k_dflt (refine' use_int (inverse_series_spec _ _ _ _ _ _ _ _ _ _ _ ?g0 ?g1 ?g2 ?g3) ?k1 ?k2 ?k3 ?k4 ?k5 ?kK ?kd ?ku ?_; walk_at "mine use"; (case g0 => walk_at "mine pre"); (case g1 => walk_at "mine pre"); (case g2 => walk_at "mine pre"); (case g3 => walk_at "mine pre")); intro _ _ _ _ _; (try dsimp only))
  trivial

set_option maxRecDepth 100000 in
set_option maxHeartbeats 1000000 in
theorem log_of_ten_spec (w : World) (mean : ExcName → Option Value) (mg mb : Str → Option Value) (news : List (Addr × Obj)) (p : Int) (t : Tok) (h0 : 0 ≤ p) (h1 : p ≤ 800) :
    Fn w mean mg mb 152 2 [.int p t] news (PIntR fun _ => True) := by
  walk_at "mine start"
  k_with "mine sm" => exact sm_pow (by decide)
  k_with "mine ne" => exact pow_ne
  k_steps
  all_goals (refine end_intR (by assumption) (by assumption) (by assumption) (by walk_at "mine sub") True.intro)
set_option maxRecDepth 100000 in
set_option maxHeartbeats 1000000 in
theorem half_turn_spec (w : World) (mean : ExcName → Option Value) (mg mb : Str → Option Value) (news : List (Addr × Obj)) (p : Int) (t : Tok) (h0 : 0 ≤ p) (h1 : p ≤ 800) :
    Fn w mean mg mb 159 2 [.int p t] news (PInt (halfTurn p)) := by
  walk_at "mine start"
  k_with "mine sm" => exact sm_pow (by decide)
  k_with "mine ne" => exact pow_ne
  k_steps
  all_goals (refine end_int (by assumption) (by assumption) (by assumption) (by walk_at "mine sub") rfl)
end
section
/-- the wave's loop: V the value that it nears, B the room, o one -/
def WI (V B o term total sign k : Int) : Prop := (∃ f : Nat, term.toNat < 2 ^ f ∧ k + 2 * f ≤ 20000) ∧ ((((total - V).natAbs : Int) + 2 * term ≤ 2 * B) ∨ (total = 0 ∧ term = o ∧ k = 0 ∧ sign = 1 ∧ V = o))
theorem pow10_lt_two (p : Nat) : 10 ^ p < 2 ^ (4 * p + 1) := by
  have h1 : 10 ^ p ≤ 16 ^ p := Nat.pow_le_pow_left (by omega) _
  have h2 : (16 : Nat) ^ p = 2 ^ (4 * p) := by rw [Nat.pow_mul]
  have h3 : (2 : Nat) ^ (4 * p) < 2 ^ (4 * p + 1) := Nat.pow_lt_pow_right (by omega) (by omega)
  omega
theorem wf_start1 {r p sg : Int} (hp : 0 ≤ p) (hp2 : p ≤ 400) (hr : (r.natAbs : Int) ≤ 10 ^ p.toNat) (h1 : -1 ≤ sg) (h2 : sg ≤ 1) :
    -1 ≤ sg ∧ sg ≤ 1 ∧ (0 : Int) ≤ 1 ∧ (1 : Int) ≤ 20000 ∧ 0 ≤ (if r < 0 then -r else r) ∧ (if r < 0 then -r else r) ≤ 10 ^ p.toNat ∧ WI 0 r.natAbs (10 ^ p.toNat) (if r < 0 then -r else r) 0 sg 1 := by
  rw [abs_if]
  refine ⟨h1, h2, by omega, by omega, by omega, hr, ⟨4 * p.toNat + 1, ?_, by omega⟩, .inl (by simp)⟩
  rw [Int.toNat_natCast]
  rw [tenp] at hr
  exact Nat.lt_of_le_of_lt (by omega) (pow10_lt_two p.toNat)
theorem wf_start0 {r p : Int} (hp : 0 ≤ p) (hp2 : p ≤ 400) :
    (-1 : Int) ≤ 1 ∧ (1 : Int) ≤ 1 ∧ (0 : Int) ≤ 0 ∧ (0 : Int) ≤ 20000 ∧ 0 ≤ (10 ^ p.toNat : Int) ∧ (10 ^ p.toNat : Int) ≤ 10 ^ p.toNat ∧ WI (10 ^ p.toNat) r.natAbs (10 ^ p.toNat) (10 ^ p.toNat) 0 1 0 := by
  have e := tenp p.toNat
  refine ⟨by omega, by omega, by omega, by omega, by rw [e]; exact Int.natCast_nonneg _, Int.le_refl _, ⟨4 * p.toNat + 1, ?_, by omega⟩, .inr ⟨rfl, rfl, rfl, rfl, rfl⟩⟩
  rw [e, Int.toNat_natCast]
  exact pow10_lt_two p.toNat
theorem wf_sq {r o : Int} (ho : 0 < o) (hr : (r.natAbs : Int) ≤ o) : 0 ≤ (r * r).fdiv o ∧ (r * r).fdiv o ≤ r.natAbs := by
  have e : r * r = ((r.natAbs * r.natAbs : Nat) : Int) := by rw [Int.natCast_mul, ← Int.natAbs_mul_self]; rfl
  have h0 : 0 ≤ r * r := by rw [e]; exact Int.natCast_nonneg _
  rw [Int.fdiv_eq_ediv_of_nonneg _ (Int.le_of_lt ho)]
  refine ⟨Int.ediv_nonneg h0 (Int.le_of_lt ho), ?_⟩
  apply Int.le_of_mul_le_mul_right _ ho
  have h1 : r * r / o * o ≤ r * r := Int.ediv_mul_le _ (Int.ne_of_gt ho)
  have h2 : r * r ≤ (r.natAbs : Int) * o := by
    rw [e, Int.natCast_mul]
    exact Int.mul_le_mul_of_nonneg_left hr (Int.natCast_nonneg _)
  omega
theorem wf_next {term S o k : Int} (ho : 0 < o) (hS0 : 0 ≤ S) (hS : S ≤ o) (hk : 0 ≤ k) (ht : 0 ≤ term) :
    0 ≤ (term * S).fdiv (o * (k + 1) * (k + 2)) ∧ 2 * (term * S).fdiv (o * (k + 1) * (k + 2)) ≤ term ∧ (term = o → 2 * (term * S).fdiv (o * (k + 1) * (k + 2)) ≤ S) := by
  have hd : 2 * o ≤ o * (k + 1) * (k + 2) := by
    have h1 : o * 1 ≤ o * (k + 1) := Int.mul_le_mul_of_nonneg_left (by omega) (Int.le_of_lt ho)
    have h2 : o * (k + 1) * 2 ≤ o * (k + 1) * (k + 2) := Int.mul_le_mul_of_nonneg_left (by omega) (by omega)
    omega
  have hd0 : 0 < o * (k + 1) * (k + 2) := by omega
  generalize o * (k + 1) * (k + 2) = d at *
  have hts : 0 ≤ term * S := Int.mul_nonneg ht hS0
  rw [Int.fdiv_eq_ediv_of_nonneg _ (Int.le_of_lt hd0)]
  have h1 : term * S / d * d ≤ term * S := Int.ediv_mul_le _ (Int.ne_of_gt hd0)
  have h0 : 0 ≤ term * S / d := Int.ediv_nonneg hts (Int.le_of_lt hd0)
  generalize term * S / d = q at *
  have h3 : q * (2 * o) ≤ q * d := Int.mul_le_mul_of_nonneg_left hd h0
  have h4 : q * (2 * o) = 2 * q * o := by rw [Int.mul_left_comm, ← Int.mul_assoc]
  refine ⟨h0, ?_, ?_⟩
  · apply Int.le_of_mul_le_mul_right _ ho
    have h5 : term * S ≤ term * o := Int.mul_le_mul_of_nonneg_left hS ht
    omega
  · intro e
    subst e
    apply Int.le_of_mul_le_mul_right _ ho
    have : term * S = S * term := Int.mul_comm _ _
    omega
theorem wf_turn {V p r term total sign k : Int} (hr : (r.natAbs : Int) ≤ 10 ^ p.toNat) (h1 : -1 ≤ sign) (h2 : sign ≤ 1) (h3 : 0 ≤ k) (h5 : 0 < term) (h6 : term ≤ 10 ^ p.toNat) (h : WI V r.natAbs (10 ^ p.toNat) term total sign k) :
    -1 ≤ -sign ∧ -sign ≤ 1 ∧ 0 ≤ k + 2 ∧ k + 2 ≤ 20000 ∧ 0 ≤ (term * (r * r).fdiv (10 ^ p.toNat)).fdiv (10 ^ p.toNat * (k + 1) * (k + 2)) ∧ (term * (r * r).fdiv (10 ^ p.toNat)).fdiv (10 ^ p.toNat * (k + 1) * (k + 2)) ≤ 10 ^ p.toNat ∧
      WI V r.natAbs (10 ^ p.toNat) ((term * (r * r).fdiv (10 ^ p.toNat)).fdiv (10 ^ p.toNat * (k + 1) * (k + 2))) (total + sign * term) (-sign) (k + 2) := by
  have ho : (0 : Int) < 10 ^ p.toNat := Int.pow_pos (by decide)
  obtain ⟨s0, s1⟩ := wf_sq ho hr
  obtain ⟨n0, n1, n2⟩ := wf_next (k := k) ho s0 (Int.le_trans s1 hr) h3 (Int.le_of_lt h5)
  generalize (term * (r * r).fdiv (10 ^ p.toNat)).fdiv (10 ^ p.toNat * (k + 1) * (k + 2)) = t' at *
  generalize (r * r).fdiv (10 ^ p.toNat) = S at *
  generalize (10 : Int) ^ p.toNat = o at *
  obtain ⟨⟨f, g1, g2⟩, g3⟩ := h
  obtain ⟨f', rfl⟩ : ∃ f', f = f' + 1 := ⟨f - 1, by
    rcases f with _ | f
    · simp at g1; omega
    · rfl⟩
  rw [Nat.pow_succ] at g1
  have hst : ((sign * term).natAbs : Int) ≤ term := by
    have : sign = -1 ∨ sign = 0 ∨ sign = 1 := by omega
    rcases this with rfl | rfl | rfl <;> (clear g3 h2 h1 g2 g1 n2 ho h6 hr s1 s0 n1 n0 h3; omega)
  refine ⟨by omega, by omega, by omega, by omega, n0, by omega, ⟨f', by (clear hst g2 g3 n2 ho h6 hr s1 s0 n0 h3 h2 h1; omega), by omega⟩, .inl ?_⟩
  rcases g3 with g3 | ⟨rfl, rfl, rfl, rfl, rfl⟩
  · omega
  · have := n2 rfl
    omega
theorem wf_end {V B o term total sign k : Int} (h0 : 0 ≤ term) (h1 : ¬ 0 < term) (ho : 0 < o) (h : WI V B o term total sign k) : ((total - V).natAbs : Int) ≤ 2 * B := by
  obtain ⟨_, g⟩ := h
  rcases g with g | g <;> omega
theorem wf_meas {p r term k : Int} (hr : (r.natAbs : Int) ≤ 10 ^ p.toNat) (h3 : 0 ≤ k) (h5 : 0 < term) : ((term * (r * r).fdiv (10 ^ p.toNat)).fdiv (10 ^ p.toNat * (k + 1) * (k + 2))).toNat < term.toNat := by
  have ho : (0 : Int) < 10 ^ p.toNat := Int.pow_pos (by decide)
  obtain ⟨s0, s1⟩ := wf_sq ho hr
  obtain ⟨n0, n1, n2⟩ := wf_next (k := k) ho s0 (Int.le_trans s1 hr) h3 (Int.le_of_lt h5)
  generalize (term * (r * r).fdiv (10 ^ p.toNat)).fdiv (10 ^ p.toNat * (k + 1) * (k + 2)) = t' at *
  omega
theorem sm_le_pow {x p : Int} (h0 : 0 ≤ x) (h1 : x ≤ 10 ^ p.toNat) (hp : p ≤ 400) : Sm x := by
  rw [tenp] at h1
  have : x.natAbs ≤ 10 ^ p.toNat := by omega
  exact Nat.lt_of_le_of_lt this (Nat.pow_lt_pow_right (by decide) (by omega))
theorem sm_abs_pow {x p : Int} (h1 : (x.natAbs : Int) ≤ 10 ^ p.toNat) (hp : p ≤ 400) : Sm x := by
  rw [tenp] at h1
  have : x.natAbs ≤ 10 ^ p.toNat := by omega
  exact Nat.lt_of_le_of_lt this (Nat.pow_lt_pow_right (by decide) (by omega))
theorem sm_sq {r p : Int} (hr : (r.natAbs : Int) ≤ 10 ^ p.toNat) (hp : p ≤ 400) : Sm ((r * r).fdiv (10 ^ p.toNat)) := by
  obtain ⟨s0, s1⟩ := wf_sq (Int.pow_pos (by decide)) hr
  exact sm_le_pow s0 (Int.le_trans s1 hr) hp
theorem sm_den {p k : Int} (hp : p ≤ 400) (h3 : 0 ≤ k) (h4 : k ≤ 20000) : Sm (10 ^ p.toNat * (k + 1) * (k + 2)) := by
  obtain ⟨n, rfl⟩ := Int.eq_ofNat_of_zero_le h3
  rw [tenp]
  have : ((10 ^ p.toNat : Nat) : Int) * ((n : Int) + 1) * ((n : Int) + 2) = ((10 ^ p.toNat * (n + 1) * (n + 2) : Nat) : Int) := by simp
  rw [this]
  unfold Sm
  rw [Int.natAbs_natCast]
  have h1 : 10 ^ p.toNat ≤ 10 ^ 400 := Nat.pow_le_pow_right (by decide) (by omega)
  have h2 : 10 ^ p.toNat * (n + 1) ≤ 10 ^ 400 * 100000 := Nat.mul_le_mul h1 (by omega)
  have h3 : 10 ^ p.toNat * (n + 1) * (n + 2) ≤ 10 ^ 400 * 100000 * 100000 := Nat.mul_le_mul h2 (by omega)
  exact Nat.lt_of_le_of_lt h3 (by decide +kernel)
theorem den_ne {p k : Int} (h3 : 0 ≤ k) : (10 : Int) ^ p.toNat * (k + 1) * (k + 2) ≠ 0 := by
  have ho : (0 : Int) < 10 ^ p.toNat := Int.pow_pos (by decide)
  exact Int.ne_of_gt (Int.mul_pos (Int.mul_pos ho (by omega)) (by omega))
end
section
theorem words_S9 : True := by
  k_with_none
  k_with "mine call" => (k_here; (with_reducible show wpAny _ _ (call (Value.ref 54) [Value.int _ _]) _ _ _); k_dflt (refine' use_int (count_digits_spec _ _ _ _ _ _ _ ) ?k1 ?k2 ?k3 ?k4 ?k5 ?kK ?kd ?ku ?_; walk_at "mine use"); intro _ _ _ _ _; (try dsimp only))
  k_with "mine call" => (k_here; (with_reducible show wpAny _ _ (call (Value.ref 61) [Value.int _ _, Value.int _ _]) _ _ _); k_dflt (refine' use_pair (strip_zeros_spec _ _ _ _ _ _ _ _ _ ) ?k1 ?k2 ?k3 ?k4 ?k5 ?kK ?kd ?ku ?_; walk_at "mine use"); intro _ _ _ _ _ _ _ _ _ _; (try dsimp only))
  k_with "mine call" => (k_here; (with_reducible show wpAny _ _ (call (Value.ref 68) [Value.int _ _, Value.int _ _, Value.int _ _]) _ _ _); k_dflt (refine' use_pair (round_digits_spec _ _ _ _ _ _ _ _ _ _ _ ?g0 ?g1) ?k1 ?k2 ?k3 ?k4 ?k5 ?kK ?kd ?ku ?_; walk_at "mine use"; (case g0 => walk_at "mine pre"); (case g1 => walk_at "mine pre")); intro _ _ _ _ _ _ _ _ _ _; (try dsimp only))
  k_with "mine call" => (k_here; (with_reducible show wpAny _ _ (call (Value.ref 75) [Value.int _ _, Value.int _ _, Value.int _ _, Value.int _ _]) _ _ _); k_dflt (refine' use_pair (round_real_spec _ _ _ _ _ _ _ _ _ _ _ _ _ ?g0 ?g1 ?g2) ?k1 ?k2 ?k3 ?k4 ?k5 ?kK ?kd ?ku ?_; walk_at "mine use"; (case g0 => walk_at "mine pre"); (case g1 => walk_at "mine pre"); (case g2 => walk_at "mine pre")); intro _ _ _ _ _ _ _ _ _ _; (try dsimp only))
  k_with "mine call" => (k_here; (with_reducible show wpAny _ _ (call (Value.ref 117) [Value.ref _]) _ _ _); k_dflt (refine' use_int (lead_of_spec _ _ _ _ _ _ _ _ ?g0) ?k1 ?k2 ?k3 ?k4 ?k5 ?kK ?kd ?ku ?_; walk_at "mine use"; (case g0 => walk_at "mine pair")); intro _ _ _ _ _; (try dsimp only))
  k_with "mine call" => (k_here; (with_reducible show wpAny _ _ (call (Value.ref 89) [Value.ref _, Value.ref _]) _ _ _); k_dflt (refine' use_pairE (exact_mul_spec _ _ _ _ _ _ _ _ _ _ _ ?g0 ?g1 ?g2) ?k1 ?k2 ?k3 ?k4 ?k5 ?kK ?kd ?ku ?_; walk_at "mine use"; (case g0 => walk_at "mine pair"); (case g1 => walk_at "mine pair"); (case g2 => walk_at "mine ok")); intro _ _ _ _ _ _ _; (try dsimp only))
  k_with "mine call" => (k_here; (with_reducible show wpAny _ _ (call (Value.ref 96) [Value.ref _]) _ _ _); k_dflt (refine' use_pairE (real_neg_spec _ _ _ _ _ _ _ _ ?g0) ?k1 ?k2 ?k3 ?k4 ?k5 ?kK ?kd ?ku ?_; walk_at "mine use"; (case g0 => walk_at "mine pair")); intro _ _ _ _ _ _ _; (try dsimp only))
  k_with "mine call" => (k_here; (with_reducible show wpAny _ _ (call (Value.ref 313) [Value.ref _]) _ _ _); k_dflt (refine' use_pairE (halved_spec _ _ _ _ _ _ _ _ ?g0) ?k1 ?k2 ?k3 ?k4 ?k5 ?kK ?kd ?ku ?_; walk_at "mine use"; (case g0 => walk_at "mine pair")); intro _ _ _ _ _ _ _; (try dsimp only))
  k_with "mine call" => (k_here; (with_reducible show wpAny _ _ (call (Value.ref 292) [Value.int _ _]) _ _ _); k_dflt (refine' use_int (wide_top_spec _ _ _ _ _ _ _ ) ?k1 ?k2 ?k3 ?k4 ?k5 ?kK ?kd ?ku ?_; walk_at "mine use"); intro _ _ _ _ _; (try dsimp only))
  k_with "mine call" => (k_here; (with_reducible show wpAny _ _ (call (Value.ref 82) [Value.ref _, Value.ref _]) _ _ _); k_dflt (refine' use_pair (exact_add_spec _ _ _ _ _ _ _ _ _ _ _ ?g0 ?g1 ?g2) ?k1 ?k2 ?k3 ?k4 ?k5 ?kK ?kd ?ku ?_; walk_at "mine use"; (case g0 => walk_at "mine pair"); (case g1 => walk_at "mine pair"); (case g2 => walk_at "mine pre")); intro _ _ _ _ _ _ _ _ _ _; (try dsimp only))
  k_with "mine call" => (k_here; (with_reducible show wpAny _ _ (call (Value.ref 124) [Value.ref _, Value.int _ _]) _ _ _); k_dflt (refine' use_int (places_for_spec _ _ _ _ _ _ _ _ _ _ ?g0) ?k1 ?k2 ?k3 ?k4 ?k5 ?kK ?kd ?ku ?_; walk_at "mine use"; (case g0 => walk_at "mine pair")); intro _ _ _ _ _; (try dsimp only))
  k_with "mine call" => (k_here; (with_reducible show wpAny _ _ (call (Value.ref 229) [Value.ref _, Value.int _ _]) _ _ _); k_dflt (refine' use_bool (is_tiny_spec _ _ _ _ _ _ _ _ _ _ ?g0) ?k1 ?k2 ?k3 ?k4 ?k5 ?kK ?kd ?ku ?_; walk_at "mine use"; (case g0 => walk_at "mine pair")); intro _ _ _ _; (try dsimp only))
  k_with "mine call" => (k_here; (with_reducible show wpAny _ _ (call (Value.ref 131) [Value.ref _, Value.int _ _]) _ _ _); k_dflt (refine' use_int (fixed_spec _ _ _ _ _ _ _ _ _ _ ?g0 ?g1 ?g2 ?g3) ?k1 ?k2 ?k3 ?k4 ?k5 ?kK ?kd ?ku ?_; walk_at "mine use"; (case g0 => walk_at "mine pair"); (case g1 => walk_at "mine pre"); (case g2 => walk_at "mine pre"); (case g3 => walk_at "mine ok")); intro _ _ _ _ _; (try dsimp only))
  k_with "mine call" => (k_here; (with_reducible show wpAny _ _ (call (Value.ref 306) [Value.ref _]) _ _ _); k_dflt (refine' use_bool (is_nought_spec _ _ _ _ _ _ _ _ _ _ _ _ _ ?g0 ?g1 ?g2) ?k1 ?k2 ?k3 ?k4 ?k5 ?kK ?kd ?ku ?_; walk_at "mine use"; (case g0 => walk_at "mine mem"); (case g1 => walk_at "mine pair"); (case g2 => walk_at "mine pair")); intro _ _ _ _; (try dsimp only))
  k_with "mine call" => (k_here; (with_reducible show wpAny _ _ (call (Value.ref 201) [Value.ref _]) _ _ _); k_dflt (refine' use_none (check_positive_spec _ _ _ _ _ _ _ _ ?g0 ?g1) ?k1 ?k2 ?k3 ?k4 ?k5 ?kK ?kd ?ku ?_; walk_at "mine use"; (case g0 => walk_at "mine pair"); (case g1 => walk_at "mine pre")); intro _ _ _ _; (try dsimp only))
  k_with "mine call" => (k_here; (with_reducible show wpAny _ _ (call (Value.ref 145) [Value.int _ _, Value.int _ _, Value.int _ _]) _ _ _); k_dflt (refine' use_int (inverse_series_spec _ _ _ _ _ _ _ _ _ _ _ ?g0 ?g1 ?g2 ?g3) ?k1 ?k2 ?k3 ?k4 ?k5 ?kK ?kd ?ku ?_; walk_at "mine use"; (case g0 => walk_at "mine pre"); (case g1 => walk_at "mine pre"); (case g2 => walk_at "mine pre"); (case g3 => walk_at "mine pre")); intro _ _ _ _ _; (try dsimp only))
  k_with "mine call" => (k_here; (with_reducible show wpAny _ _ (call (Value.ref 152) [Value.int _ _]) _ _ _); k_dflt (refine' use_intR (log_of_ten_spec _ _ _ _ _ _ _ ?g0 ?g1) ?k1 ?k2 ?k3 ?k4 ?k5 ?kK ?kd ?ku ?_; walk_at "mine use"; (case g0 => walk_at "mine pre"); (case g1 => walk_at "mine pre")); intro _ _ _ _ _ _ _; (try dsimp only))
  k_with "mine call" => (k_here; (with_reducible show wpAny _ _ (call (Value.ref 159) [Value.int _ _]) _ _ _); k_dflt (refine' use_int (half_turn_spec _ _ _ _ _ _ _ ?g0 ?g1) ?k1 ?k2 ?k3 ?k4 ?k5 ?kK ?kd ?ku ?_; walk_at "mine use"; (case g0 => walk_at "mine pre"); (case g1 => walk_at "mine pre")); intro _ _ _ _ _; (try dsimp only))
  trivial
set_option maxRecDepth 100000 in
set_option maxHeartbeats 1000000 in
theorem wave_fixed_spec (w : World) (mean : ExcName → Option Value) (mg mb : Str → Option Value) (news : List (Addr × Obj)) (r p g : Int) (t u v : Tok) (hp : 0 ≤ p) (hp2 : p ≤ 400) (hr : (r.natAbs : Int) ≤ 10 ^ p.toNat) (hg : g = 0 ∨ g = 1) :
    Fn w mean mg mb 215 1 [.int r t, .int p u, .int g v] news (PIntR fun V => ((V - if g = 1 then 0 else 10 ^ p.toNat).natAbs : Int) ≤ 2 * r.natAbs) := by
  have ho : (0 : Int) < 10 ^ p.toNat := Int.pow_pos (by decide)
  have hsr := sm_abs_pow hr hp2
  have hsq := sm_sq hr hp2
  have hsp : Sm (10 ^ p.toNat) := sm_pow (by omega)
  walk_at "mine start"
  k_with "state" => first
    | exact wf_start1 hp hp2 hr (by omega) (by omega)
    | exact wf_start0 hp hp2
    | exact wf_turn hr (by assumption) (by assumption) (by assumption) (by assumption) (by assumption) (by assumption)
  k_with "measure" => exact wf_meas hr (by assumption) (by assumption)
  k_with "mine sm" => first | exact sm_le_pow (by assumption) (by assumption) hp2 | exact sm_den hp2 (by assumption) (by assumption)
  k_with "mine ne" => first | exact pow_ne | exact den_ne (by assumption)
  rcases hg with rfl | rfl
  · k_with "exec While Compare cons nil" => k_while (fun _ term total sign k => -1 ≤ sign ∧ sign ≤ 1 ∧ 0 ≤ k ∧ k ≤ 20000 ∧ 0 ≤ term ∧ term ≤ 10 ^ p.toNat ∧ WI (10 ^ p.toNat) r.natAbs (10 ^ p.toNat) term total sign k) (fun _ term _ _ _ => term.toNat) "term" "total" "sign" "k"
    k_steps
    all_goals (refine end_intR (by assumption) (by assumption) (by assumption) (by walk_at "mine sub") ?_)
    all_goals exact wf_end (by assumption) (by assumption) ho (by assumption)
  · k_with "exec While Compare cons nil" => k_while (fun _ term total sign k => -1 ≤ sign ∧ sign ≤ 1 ∧ 0 ≤ k ∧ k ≤ 20000 ∧ 0 ≤ term ∧ term ≤ 10 ^ p.toNat ∧ WI 0 r.natAbs (10 ^ p.toNat) term total sign k) (fun _ term _ _ _ => term.toNat) "term" "total" "sign" "k"
    k_steps
    all_goals (refine end_intR (by assumption) (by assumption) (by assumption) (by walk_at "mine sub") ?_)
    all_goals exact wf_end (by assumption) (by assumption) ho (by assumption)
end
section
local macro_rules | `(tactic| walk_at "mine dummy") => `(tactic| skip)
theorem words_S10 : True := by
  k_with_none
  k_with "mine call" => (k_here; (with_reducible show wpAny _ _ (call (Value.ref 54) [Value.int _ _]) _ _ _); k_dflt (refine' use_int (count_digits_spec _ _ _ _ _ _ _ ) ?k1 ?k2 ?k3 ?k4 ?k5 ?kK ?kd ?ku ?_; walk_at "mine use"); intro _ _ _ _ _; (try dsimp only))
  k_with "mine call" => (k_here; (with_reducible show wpAny _ _ (call (Value.ref 61) [Value.int _ _, Value.int _ _]) _ _ _); k_dflt (refine' use_pair (strip_zeros_spec _ _ _ _ _ _ _ _ _ ) ?k1 ?k2 ?k3 ?k4 ?k5 ?kK ?kd ?ku ?_; walk_at "mine use"); intro _ _ _ _ _ _ _ _ _ _; (try dsimp only))
  k_with "mine call" => (k_here; (with_reducible show wpAny _ _ (call (Value.ref 68) [Value.int _ _, Value.int _ _, Value.int _ _]) _ _ _); k_dflt (refine' use_pair (round_digits_spec _ _ _ _ _ _ _ _ _ _ _ ?g0 ?g1) ?k1 ?k2 ?k3 ?k4 ?k5 ?kK ?kd ?ku ?_; walk_at "mine use"; (case g0 => walk_at "mine pre"); (case g1 => walk_at "mine pre")); intro _ _ _ _ _ _ _ _ _ _; (try dsimp only))
  k_with "mine call" => (k_here; (with_reducible show wpAny _ _ (call (Value.ref 75) [Value.int _ _, Value.int _ _, Value.int _ _, Value.int _ _]) _ _ _); k_dflt (refine' use_pair (round_real_spec _ _ _ _ _ _ _ _ _ _ _ _ _ ?g0 ?g1 ?g2) ?k1 ?k2 ?k3 ?k4 ?k5 ?kK ?kd ?ku ?_; walk_at "mine use"; (case g0 => walk_at "mine pre"); (case g1 => walk_at "mine pre"); (case g2 => walk_at "mine pre")); intro _ _ _ _ _ _ _ _ _ _; (try dsimp only))
  k_with "mine call" => (k_here; (with_reducible show wpAny _ _ (call (Value.ref 117) [Value.ref _]) _ _ _); k_dflt (refine' use_int (lead_of_spec _ _ _ _ _ _ _ _ ?g0) ?k1 ?k2 ?k3 ?k4 ?k5 ?kK ?kd ?ku ?_; walk_at "mine use"; (case g0 => walk_at "mine pair")); intro _ _ _ _ _; (try dsimp only))
  k_with "mine call" => (k_here; (with_reducible show wpAny _ _ (call (Value.ref 89) [Value.ref _, Value.ref _]) _ _ _); k_dflt (refine' use_pairE (exact_mul_spec _ _ _ _ _ _ _ _ _ _ _ ?g0 ?g1 ?g2) ?k1 ?k2 ?k3 ?k4 ?k5 ?kK ?kd ?ku ?_; walk_at "mine use"; (case g0 => walk_at "mine pair"); (case g1 => walk_at "mine pair"); (case g2 => walk_at "mine ok")); intro _ _ _ _ _ _ _; (try dsimp only))
  k_with "mine call" => (k_here; (with_reducible show wpAny _ _ (call (Value.ref 96) [Value.ref _]) _ _ _); k_dflt (refine' use_pairE (real_neg_spec _ _ _ _ _ _ _ _ ?g0) ?k1 ?k2 ?k3 ?k4 ?k5 ?kK ?kd ?ku ?_; walk_at "mine use"; (case g0 => walk_at "mine pair")); intro _ _ _ _ _ _ _; (try dsimp only))
  k_with "mine call" => (k_here; (with_reducible show wpAny _ _ (call (Value.ref 313) [Value.ref _]) _ _ _); k_dflt (refine' use_pairE (halved_spec _ _ _ _ _ _ _ _ ?g0) ?k1 ?k2 ?k3 ?k4 ?k5 ?kK ?kd ?ku ?_; walk_at "mine use"; (case g0 => walk_at "mine pair")); intro _ _ _ _ _ _ _; (try dsimp only))
  k_with "mine call" => (k_here; (with_reducible show wpAny _ _ (call (Value.ref 292) [Value.int _ _]) _ _ _); k_dflt (refine' use_int (wide_top_spec _ _ _ _ _ _ _ ) ?k1 ?k2 ?k3 ?k4 ?k5 ?kK ?kd ?ku ?_; walk_at "mine use"); intro _ _ _ _ _; (try dsimp only))
  k_with "mine call" => (k_here; (with_reducible show wpAny _ _ (call (Value.ref 82) [Value.ref _, Value.ref _]) _ _ _); k_dflt (refine' use_pair (exact_add_spec _ _ _ _ _ _ _ _ _ _ _ ?g0 ?g1 ?g2) ?k1 ?k2 ?k3 ?k4 ?k5 ?kK ?kd ?ku ?_; walk_at "mine use"; (case g0 => walk_at "mine pair"); (case g1 => walk_at "mine pair"); (case g2 => walk_at "mine pre")); intro _ _ _ _ _ _ _ _ _ _; (try dsimp only))
  k_with "mine call" => (k_here; (with_reducible show wpAny _ _ (call (Value.ref 124) [Value.ref _, Value.int _ _]) _ _ _); k_dflt (refine' use_int (places_for_spec _ _ _ _ _ _ _ _ _ _ ?g0) ?k1 ?k2 ?k3 ?k4 ?k5 ?kK ?kd ?ku ?_; walk_at "mine use"; (case g0 => walk_at "mine pair")); intro _ _ _ _ _; (try dsimp only))
  k_with "mine call" => (k_here; (with_reducible show wpAny _ _ (call (Value.ref 229) [Value.ref _, Value.int _ _]) _ _ _); k_dflt (refine' use_bool (is_tiny_spec _ _ _ _ _ _ _ _ _ _ ?g0) ?k1 ?k2 ?k3 ?k4 ?k5 ?kK ?kd ?ku ?_; walk_at "mine use"; (case g0 => walk_at "mine pair")); intro _ _ _ _; (try dsimp only))
  k_with "mine call" => (k_here; (with_reducible show wpAny _ _ (call (Value.ref 131) [Value.ref _, Value.int _ _]) _ _ _); k_dflt (refine' use_int (fixed_spec _ _ _ _ _ _ _ _ _ _ ?g0 ?g1 ?g2 ?g3) ?k1 ?k2 ?k3 ?k4 ?k5 ?kK ?kd ?ku ?_; walk_at "mine use"; (case g0 => walk_at "mine pair"); (case g1 => walk_at "mine pre"); (case g2 => walk_at "mine pre"); (case g3 => walk_at "mine ok")); intro _ _ _ _ _; (try dsimp only))
  k_with "mine call" => (k_here; (with_reducible show wpAny _ _ (call (Value.ref 306) [Value.ref _]) _ _ _); k_dflt (refine' use_bool (is_nought_spec _ _ _ _ _ _ _ _ _ _ _ _ _ ?g0 ?g1 ?g2) ?k1 ?k2 ?k3 ?k4 ?k5 ?kK ?kd ?ku ?_; walk_at "mine use"; (case g0 => walk_at "mine mem"); (case g1 => walk_at "mine pair"); (case g2 => walk_at "mine pair")); intro _ _ _ _; (try dsimp only))
  k_with "mine call" => (k_here; (with_reducible show wpAny _ _ (call (Value.ref 201) [Value.ref _]) _ _ _); k_dflt (refine' use_none (check_positive_spec _ _ _ _ _ _ _ _ ?g0 ?g1) ?k1 ?k2 ?k3 ?k4 ?k5 ?kK ?kd ?ku ?_; walk_at "mine use"; (case g0 => walk_at "mine pair"); (case g1 => walk_at "mine pre")); intro _ _ _ _; (try dsimp only))
  k_with "mine call" => (k_here; (with_reducible show wpAny _ _ (call (Value.ref 145) [Value.int _ _, Value.int _ _, Value.int _ _]) _ _ _); k_dflt (refine' use_int (inverse_series_spec _ _ _ _ _ _ _ _ _ _ _ ?g0 ?g1 ?g2 ?g3) ?k1 ?k2 ?k3 ?k4 ?k5 ?kK ?kd ?ku ?_; walk_at "mine use"; (case g0 => walk_at "mine pre"); (case g1 => walk_at "mine pre"); (case g2 => walk_at "mine pre"); (case g3 => walk_at "mine pre")); intro _ _ _ _ _; (try dsimp only))
  k_with "mine call" => (k_here; (with_reducible show wpAny _ _ (call (Value.ref 152) [Value.int _ _]) _ _ _); k_dflt (refine' use_intR (log_of_ten_spec _ _ _ _ _ _ _ ?g0 ?g1) ?k1 ?k2 ?k3 ?k4 ?k5 ?kK ?kd ?ku ?_; walk_at "mine use"; (case g0 => walk_at "mine pre"); (case g1 => walk_at "mine pre")); intro _ _ _ _ _ _ _; (try dsimp only))
  k_with "mine call" => (k_here; (with_reducible show wpAny _ _ (call (Value.ref 159) [Value.int _ _]) _ _ _); k_dflt (refine' use_int (half_turn_spec _ _ _ _ _ _ _ ?g0 ?g1) ?k1 ?k2 ?k3 ?k4 ?k5 ?kK ?kd ?ku ?_; walk_at "mine use"; (case g0 => walk_at "mine pre"); (case g1 => walk_at "mine pre")); intro _ _ _ _ _; (try dsimp only))
  k_with "mine call" => (k_here; (with_reducible show wpAny _ _ (call (Value.ref 215) [Value.int _ _, Value.int _ _, Value.int _ _]) _ _ _); k_dflt (refine' use_intR (wave_fixed_spec _ _ _ _ _ _ _ _ _ _ _ ?g0 ?g1 ?g2 ?g3) ?k1 ?k2 ?k3 ?k4 ?k5 ?kK ?kd ?ku ?_; walk_at "mine use"; (case g0 => walk_at "mine pre"); (case g1 => walk_at "mine pre"); (case g2 => walk_at "mine pre"); (case g3 => walk_at "mine pre")); intro _ _ _ _ _ _ _; (try dsimp only))
  trivial
theorem fm2 (t : Int) : 1 - t.fmod 2 = 0 ∨ 1 - t.fmod 2 = 1 := by
  rw [Int.fmod_eq_emod_of_nonneg _ (by omega)]
  omega
/-- what wave hands back: V near 0 or near one, by the turn -/
def WaveR (P q r g u v : Int) : Prop := v = P ∧ ∃ V : Int, ((V - if 1 - ((q + g).fmod 4).fmod 2 = 1 then 0 else 10 ^ P.toNat).natAbs : Int) ≤ 2 * r.natAbs ∧ u = if 2 ≤ (q + g).fmod 4 then -V else V
theorem wave_pos {P q r g V : Int} (h : 2 ≤ (q + g).fmod 4) (hV : ((V - if 1 - ((q + g).fmod 4).fmod 2 = 1 then 0 else 10 ^ P.toNat).natAbs : Int) ≤ 2 * r.natAbs) : WaveR P q r g (-V) P := ⟨rfl, V, hV, (if_pos h).symm⟩
theorem wave_neg {P q r g V : Int} (h : ¬ 2 ≤ (q + g).fmod 4) (hV : ((V - if 1 - ((q + g).fmod 4).fmod 2 = 1 then 0 else 10 ^ P.toNat).natAbs : Int) ≤ 2 * r.natAbs) : WaveR P q r g V P := ⟨rfl, V, hV, (if_neg h).symm⟩
set_option maxRecDepth 100000 in
set_option maxHeartbeats 1000000 in
theorem exp_real_spec (w : World) (mean : ExcName → Option Value) (mg mb : Str → Option Value) (news : List (Addr × Obj)) (D : Addr) (b d top : Int) (t u : Tok) (hp : PairIn news D 0 b) :
    Fn w mean mg mb 187 1 [.ref D, .int d t, .int top u] news (PPairE 1 0) := by
  walk_at "mine start"
  k_steps
  all_goals walk_at "mine endE"
set_option maxRecDepth 100000 in
set_option maxHeartbeats 1000000 in
theorem wave_spec (w : World) (mean : ExcName → Option Value) (mg mb : Str → Option Value) (news : List (Addr × Obj)) (D : Addr) (a b d g P n pi q r : Int) (t u : Tok) (hp : PairIn news D a b) (hP : P = d + max d (cd a.natAbs) + 10 + max 0 (cd a.natAbs + b)) (hn : n = a * 10 ^ (b + P).toNat) (hpi : pi = halfTurn P)
    (hq : q = (4 * n + pi).fdiv (2 * pi)) (hr : r = (2 * n - q * pi).fdiv 2) (p0 : 0 ≤ P) (p1 : P ≤ 400) (s0 : 0 ≤ b + P) (s1 : b + P ≤ 900) (ha : Sm a) (pi0 : 0 < pi) (spi : Sm pi) (s2pi : Sm (2 * pi)) (sq : Sm q) (hrr : (r.natAbs : Int) ≤ 10 ^ P.toNat) :
    Fn w mean mg mb 222 4 [.ref D, .int d t, .int g u] news (PPair (WaveR P q r g)) := by
  subst hr hq hpi hn hP
  walk_at "mine start"
  k_with "mine sm" => first | exact sm_pow (by omega) | exact sm_int (by omega) (by omega)
  k_with "mine pre" => exact fm2 _
  k_steps
  all_goals walk_at "mine endp"
  all_goals first | exact wave_pos (by assumption) (by assumption) | exact wave_neg (by assumption) (by assumption)
end
section
theorem words_S11 : True := by
  k_with_none
  k_with "mine call" => (k_here; (with_reducible show wpAny _ _ (call (Value.ref 54) [Value.int _ _]) _ _ _); k_dflt (refine' use_int (count_digits_spec _ _ _ _ _ _ _ ) ?k1 ?k2 ?k3 ?k4 ?k5 ?kK ?kd ?ku ?_; walk_at "mine use"); intro _ _ _ _ _; (try dsimp only))
  k_with "mine call" => (k_here; (with_reducible show wpAny _ _ (call (Value.ref 61) [Value.int _ _, Value.int _ _]) _ _ _); k_dflt (refine' use_pair (strip_zeros_spec _ _ _ _ _ _ _ _ _ ) ?k1 ?k2 ?k3 ?k4 ?k5 ?kK ?kd ?ku ?_; walk_at "mine use"); intro _ _ _ _ _ _ _ _ _ _; (try dsimp only))
  k_with "mine call" => (k_here; (with_reducible show wpAny _ _ (call (Value.ref 68) [Value.int _ _, Value.int _ _, Value.int _ _]) _ _ _); k_dflt (refine' use_pair (round_digits_spec _ _ _ _ _ _ _ _ _ _ _ ?g0 ?g1) ?k1 ?k2 ?k3 ?k4 ?k5 ?kK ?kd ?ku ?_; walk_at "mine use"; (case g0 => walk_at "mine pre"); (case g1 => walk_at "mine pre")); intro _ _ _ _ _ _ _ _ _ _; (try dsimp only))
  k_with "mine call" => (k_here; (with_reducible show wpAny _ _ (call (Value.ref 75) [Value.int _ _, Value.int _ _, Value.int _ _, Value.int _ _]) _ _ _); k_dflt (refine' use_pair (round_real_spec _ _ _ _ _ _ _ _ _ _ _ _ _ ?g0 ?g1 ?g2) ?k1 ?k2 ?k3 ?k4 ?k5 ?kK ?kd ?ku ?_; walk_at "mine use"; (case g0 => walk_at "mine pre"); (case g1 => walk_at "mine pre"); (case g2 => walk_at "mine pre")); intro _ _ _ _ _ _ _ _ _ _; (try dsimp only))
  k_with "mine call" => (k_here; (with_reducible show wpAny _ _ (call (Value.ref 117) [Value.ref _]) _ _ _); k_dflt (refine' use_int (lead_of_spec _ _ _ _ _ _ _ _ ?g0) ?k1 ?k2 ?k3 ?k4 ?k5 ?kK ?kd ?ku ?_; walk_at "mine use"; (case g0 => walk_at "mine pair")); intro _ _ _ _ _; (try dsimp only))
  k_with "mine call" => (k_here; (with_reducible show wpAny _ _ (call (Value.ref 89) [Value.ref _, Value.ref _]) _ _ _); k_dflt (refine' use_pairE (exact_mul_spec _ _ _ _ _ _ _ _ _ _ _ ?g0 ?g1 ?g2) ?k1 ?k2 ?k3 ?k4 ?k5 ?kK ?kd ?ku ?_; walk_at "mine use"; (case g0 => walk_at "mine pair"); (case g1 => walk_at "mine pair"); (case g2 => walk_at "mine ok")); intro _ _ _ _ _ _ _; (try dsimp only))
  k_with "mine call" => (k_here; (with_reducible show wpAny _ _ (call (Value.ref 96) [Value.ref _]) _ _ _); k_dflt (refine' use_pairE (real_neg_spec _ _ _ _ _ _ _ _ ?g0) ?k1 ?k2 ?k3 ?k4 ?k5 ?kK ?kd ?ku ?_; walk_at "mine use"; (case g0 => walk_at "mine pair")); intro _ _ _ _ _ _ _; (try dsimp only))
  k_with "mine call" => (k_here; (with_reducible show wpAny _ _ (call (Value.ref 313) [Value.ref _]) _ _ _); k_dflt (refine' use_pairE (halved_spec _ _ _ _ _ _ _ _ ?g0) ?k1 ?k2 ?k3 ?k4 ?k5 ?kK ?kd ?ku ?_; walk_at "mine use"; (case g0 => walk_at "mine pair")); intro _ _ _ _ _ _ _; (try dsimp only))
  k_with "mine call" => (k_here; (with_reducible show wpAny _ _ (call (Value.ref 292) [Value.int _ _]) _ _ _); k_dflt (refine' use_int (wide_top_spec _ _ _ _ _ _ _ ) ?k1 ?k2 ?k3 ?k4 ?k5 ?kK ?kd ?ku ?_; walk_at "mine use"); intro _ _ _ _ _; (try dsimp only))
  k_with "mine call" => (k_here; (with_reducible show wpAny _ _ (call (Value.ref 82) [Value.ref _, Value.ref _]) _ _ _); k_dflt (refine' use_pair (exact_add_spec _ _ _ _ _ _ _ _ _ _ _ ?g0 ?g1 ?g2) ?k1 ?k2 ?k3 ?k4 ?k5 ?kK ?kd ?ku ?_; walk_at "mine use"; (case g0 => walk_at "mine pair"); (case g1 => walk_at "mine pair"); (case g2 => walk_at "mine pre")); intro _ _ _ _ _ _ _ _ _ _; (try dsimp only))
  k_with "mine call" => (k_here; (with_reducible show wpAny _ _ (call (Value.ref 124) [Value.ref _, Value.int _ _]) _ _ _); k_dflt (refine' use_int (places_for_spec _ _ _ _ _ _ _ _ _ _ ?g0) ?k1 ?k2 ?k3 ?k4 ?k5 ?kK ?kd ?ku ?_; walk_at "mine use"; (case g0 => walk_at "mine pair")); intro _ _ _ _ _; (try dsimp only))
  k_with "mine call" => (k_here; (with_reducible show wpAny _ _ (call (Value.ref 229) [Value.ref _, Value.int _ _]) _ _ _); k_dflt (refine' use_bool (is_tiny_spec _ _ _ _ _ _ _ _ _ _ ?g0) ?k1 ?k2 ?k3 ?k4 ?k5 ?kK ?kd ?ku ?_; walk_at "mine use"; (case g0 => walk_at "mine pair")); intro _ _ _ _; (try dsimp only))
  k_with "mine call" => (k_here; (with_reducible show wpAny _ _ (call (Value.ref 131) [Value.ref _, Value.int _ _]) _ _ _); k_dflt (refine' use_int (fixed_spec _ _ _ _ _ _ _ _ _ _ ?g0 ?g1 ?g2 ?g3) ?k1 ?k2 ?k3 ?k4 ?k5 ?kK ?kd ?ku ?_; walk_at "mine use"; (case g0 => walk_at "mine pair"); (case g1 => walk_at "mine pre"); (case g2 => walk_at "mine pre"); (case g3 => walk_at "mine ok")); intro _ _ _ _ _; (try dsimp only))
  k_with "mine call" => (k_here; (with_reducible show wpAny _ _ (call (Value.ref 306) [Value.ref _]) _ _ _); k_dflt (refine' use_bool (is_nought_spec _ _ _ _ _ _ _ _ _ _ _ _ _ ?g0 ?g1 ?g2) ?k1 ?k2 ?k3 ?k4 ?k5 ?kK ?kd ?ku ?_; walk_at "mine use"; (case g0 => walk_at "mine mem"); (case g1 => walk_at "mine pair"); (case g2 => walk_at "mine pair")); intro _ _ _ _; (try dsimp only))
  k_with "mine call" => (k_here; (with_reducible show wpAny _ _ (call (Value.ref 201) [Value.ref _]) _ _ _); k_dflt (refine' use_none (check_positive_spec _ _ _ _ _ _ _ _ ?g0 ?g1) ?k1 ?k2 ?k3 ?k4 ?k5 ?kK ?kd ?ku ?_; walk_at "mine use"; (case g0 => walk_at "mine pair"); (case g1 => walk_at "mine pre")); intro _ _ _ _; (try dsimp only))
  k_with "mine call" => (k_here; (with_reducible show wpAny _ _ (call (Value.ref 145) [Value.int _ _, Value.int _ _, Value.int _ _]) _ _ _); k_dflt (refine' use_int (inverse_series_spec _ _ _ _ _ _ _ _ _ _ _ ?g0 ?g1 ?g2 ?g3) ?k1 ?k2 ?k3 ?k4 ?k5 ?kK ?kd ?ku ?_; walk_at "mine use"; (case g0 => walk_at "mine pre"); (case g1 => walk_at "mine pre"); (case g2 => walk_at "mine pre"); (case g3 => walk_at "mine pre")); intro _ _ _ _ _; (try dsimp only))
  k_with "mine call" => (k_here; (with_reducible show wpAny _ _ (call (Value.ref 152) [Value.int _ _]) _ _ _); k_dflt (refine' use_intR (log_of_ten_spec _ _ _ _ _ _ _ ?g0 ?g1) ?k1 ?k2 ?k3 ?k4 ?k5 ?kK ?kd ?ku ?_; walk_at "mine use"; (case g0 => walk_at "mine pre"); (case g1 => walk_at "mine pre")); intro _ _ _ _ _ _ _; (try dsimp only))
  k_with "mine call" => (k_here; (with_reducible show wpAny _ _ (call (Value.ref 159) [Value.int _ _]) _ _ _); k_dflt (refine' use_int (half_turn_spec _ _ _ _ _ _ _ ?g0 ?g1) ?k1 ?k2 ?k3 ?k4 ?k5 ?kK ?kd ?ku ?_; walk_at "mine use"; (case g0 => walk_at "mine pre"); (case g1 => walk_at "mine pre")); intro _ _ _ _ _; (try dsimp only))
  k_with "mine call" => (k_here; (with_reducible show wpAny _ _ (call (Value.ref 215) [Value.int _ _, Value.int _ _, Value.int _ _]) _ _ _); k_dflt (refine' use_intR (wave_fixed_spec _ _ _ _ _ _ _ _ _ _ _ ?g0 ?g1 ?g2 ?g3) ?k1 ?k2 ?k3 ?k4 ?k5 ?kK ?kd ?ku ?_; walk_at "mine use"; (case g0 => walk_at "mine pre"); (case g1 => walk_at "mine pre"); (case g2 => walk_at "mine pre"); (case g3 => walk_at "mine pre")); intro _ _ _ _ _ _ _; (try dsimp only))
  k_with "mine call" => (k_here; (with_reducible show wpAny _ _ (call (Value.ref 187) [Value.ref _, Value.int _ _, Value.int _ _]) _ _ _); k_dflt (refine' use_pairE (exp_real_spec _ _ _ _ _ _ _ _ _ _ _ ?g0) ?k1 ?k2 ?k3 ?k4 ?k5 ?kK ?kd ?ku ?_; walk_at "mine use"; (case g0 => walk_at "mine pair")); intro _ _ _ _ _ _ _; (try dsimp only))
  k_with "mine call" => (k_here; (with_reducible show wpAny _ _ (call (Value.ref 222) [Value.ref _, Value.int _ _, Value.int _ _]) _ _ _); k_dflt (refine' use_pair (wave_specW _ _ _ _ _ _ _ _ _ _ _ _ _ _ _ _ _ ?g0 ?g1) ?k1 ?k2 ?k3 ?k4 ?k5 ?kK ?kd ?ku ?_; walk_at "mine use"; (case g1 => assumption); (case g0 => walk_at "mine pair")); intro _ _ _ _ _ _ _ _ _ _; (try dsimp only))
  trivial
/-- what the wave asks of its number -/
structure WaveOk (a b d P n pi q r : Int) : Prop where
  hP : P = d + max d (cd a.natAbs) + 10 + max 0 (cd a.natAbs + b)
  hn : n = a * 10 ^ (b + P).toNat
  hpi : pi = halfTurn P
  hq : q = (4 * n + pi).fdiv (2 * pi)
  hr : r = (2 * n - q * pi).fdiv 2
  p0 : 0 ≤ P
  p1 : P ≤ 400
  s0 : 0 ≤ b + P
  s1 : b + P ≤ 900
  ha : Sm a
  pi0 : 0 < pi
  spi : Sm pi
  s2pi : Sm (2 * pi)
  sq : Sm q
  hrr : (r.natAbs : Int) ≤ 10 ^ P.toNat
theorem waver_cd {P q r g u v : Int} (h : WaveR P q r g u v) (p0 : 0 ≤ P) (hr : (r.natAbs : Int) ≤ 10 ^ P.toNat) : (cd u.natAbs : Int) ≤ P + 1 := by
  obtain ⟨_, V, hV, hu⟩ := h
  have hVu : u.natAbs = V.natAbs := by rw [hu]; split <;> (clear hu hV hr p0; omega)
  have h3 : V.natAbs < 10 ^ P.toNat * 10 := by
    rw [tenp] at hr hV
    have hpos : 0 < 10 ^ P.toNat := Nat.pow_pos (by decide)
    generalize (10 : Nat) ^ P.toNat = o at *
    split at hV <;> (clear hVu hu p0; omega)
  rw [← Nat.pow_succ] at h3
  have := cd_le.mpr h3
  rw [hVu]
  (clear h3 hVu hu hV hr; omega)
theorem waver_snd {P q r g u v : Int} (h : WaveR P q r g u v) : v = P := h.1
theorem waver_pre1 {P q r g u v : Int} (h : WaveR P q r g u v) (p0 : 0 ≤ P) (p1 : P ≤ 400) (hr : (r.natAbs : Int) ≤ 10 ^ P.toNat) : cd u.natAbs ≤ 900 := by
  have := waver_cd h p0 hr
  omega
theorem waver_pre2 {P q r g u v top : Int} (h : WaveR P q r g u v) (p0 : 0 ≤ P) (hr : (r.natAbs : Int) ≤ 10 ^ P.toNat) (ht : 1 ≤ top) : (cd u.natAbs : Int) + -v ≤ top := by
  have := waver_cd h p0 hr
  have := h.1
  omega
/-- a sine or a cosine, rounded -/
def SinR (P q r g d top x y : Int) : Prop := ∃ u, WaveR P q r g u P ∧ RR u (-P) d top x y
theorem sinr_of {P q r g d top x y u v : Int} (h : WaveR P q r g u v) (h2 : RR u (-v) d top x y) : SinR P q r g d top x y := by
  obtain rfl := h.1
  exact ⟨u, h, h2⟩
theorem rr_nil {e d top x y : Int} (h : RR 0 e d top x y) : x = 0 ∧ y = 0 := by
  rcases h with h | h
  · exact ⟨h.1, h.2.1⟩
  · exact absurd rfl h.1
theorem wave_specW (w : World) (mean : ExcName → Option Value) (mg mb : Str → Option Value) (news : List (Addr × Obj)) (D : Addr) (a b d g P n pi q r : Int) (t u : Tok) (hp : PairIn news D a b) (W : WaveOk a b d P n pi q r) : Fn w mean mg mb 222 4 [.ref D, .int d t, .int g u] news (PPair (WaveR P q r g)) :=
  wave_spec w mean mg mb news D a b d g P n pi q r t u hp W.hP W.hn W.hpi W.hq W.hr W.p0 W.p1 W.s0 W.s1 W.ha W.pi0 W.spi W.s2pi W.sq W.hrr
set_option maxRecDepth 100000 in
set_option maxHeartbeats 1000000 in
theorem sin_tiny_spec (w : World) (mean : ExcName → Option Value) (mg mb : Str → Option Value) (news : List (Addr × Obj)) (D : Addr) (b d top : Int) (t u : Tok) (hp : PairIn news D 0 b) (hd : 1 ≤ d) (hb : b ≤ top) :
    Fn w mean mg mb 236 4 [.ref D, .int d t, .int top u] news (PPairE 0 0) := by
  have hc : cd (0 : Int).natAbs ≤ 900 := by decide
  have hc2 : (cd (0 : Int).natAbs : Int) + b ≤ top := by simpa [cd_zero] using hb
  have ht : decide ((0 : Int) = 0 ∨ (cd (0 : Int).natAbs : Int) + b < -d) = true := by simp
  walk_at "mine start"
  k_steps
  all_goals (obtain ⟨rfl, rfl⟩ := rr_nil (by assumption); walk_at "mine endE")
set_option maxRecDepth 100000 in
set_option maxHeartbeats 1000000 in
theorem cos_tiny_spec (w : World) (mean : ExcName → Option Value) (mg mb : Str → Option Value) (news : List (Addr × Obj)) (D : Addr) (b d top : Int) (t u : Tok) (hp : PairIn news D 0 b) :
    Fn w mean mg mb 243 4 [.ref D, .int d t, .int top u] news (PPairE 1 0) := by
  have ht : decide ((0 : Int) = 0 ∨ (cd (0 : Int).natAbs : Int) + b < -d) = true := by simp
  walk_at "mine start"
  k_steps
  all_goals walk_at "mine endE"
set_option maxRecDepth 100000 in
set_option maxHeartbeats 1000000 in
theorem sin_spec (w : World) (mean : ExcName → Option Value) (mg mb : Str → Option Value) (news : List (Addr × Obj)) (D : Addr) (a b d top P n pi q r : Int) (t u : Tok) (hp : PairIn news D a b) (hd : 1 ≤ d) (ht : 1 ≤ top) (hnt : ¬ (a = 0 ∨ (cd a.natAbs : Int) + b < -d)) (W : WaveOk a b d P n pi q r) :
    Fn w mean mg mb 236 5 [.ref D, .int d t, .int top u] news (PPair (SinR P q r 0 d top)) := by
  have hnt2 := decide_eq_false hnt
  have p0 := W.p0
  have p1 := W.p1
  have hrr := W.hrr
  walk_at "mine start"
  k_with "mine pre" => first | exact waver_pre1 (by assumption) p0 p1 hrr | exact waver_pre2 (by assumption) p0 hrr ht
  k_steps
  all_goals walk_at "mine endp"
  all_goals exact sinr_of (by assumption) (by assumption)
set_option maxRecDepth 100000 in
set_option maxHeartbeats 1000000 in
theorem cos_spec (w : World) (mean : ExcName → Option Value) (mg mb : Str → Option Value) (news : List (Addr × Obj)) (D : Addr) (a b d top P n pi q r : Int) (t u : Tok) (hp : PairIn news D a b) (hd : 1 ≤ d) (ht : 1 ≤ top) (hnt : ¬ (a = 0 ∨ (cd a.natAbs : Int) + b < -d)) (W : WaveOk a b d P n pi q r) :
    Fn w mean mg mb 243 5 [.ref D, .int d t, .int top u] news (PPair (SinR P q r 1 d top)) := by
  have hnt2 := decide_eq_false hnt
  have p0 := W.p0
  have p1 := W.p1
  have hrr := W.hrr
  walk_at "mine start"
  k_with "mine pre" => first | exact waver_pre1 (by assumption) p0 p1 hrr | exact waver_pre2 (by assumption) p0 hrr ht
  k_steps
  all_goals walk_at "mine endp"
  all_goals exact sinr_of (by assumption) (by assumption)
end
section
local macro_rules | `(tactic| walk_at "mine dummy") => `(tactic| skip)
theorem words_S12 : True := by
  k_with_none
  k_with "mine call" => (k_here; (with_reducible show wpAny _ _ (call (Value.ref 54) [Value.int _ _]) _ _ _); k_dflt (refine' use_int (count_digits_spec _ _ _ _ _ _ _ ) ?k1 ?k2 ?k3 ?k4 ?k5 ?kK ?kd ?ku ?_; walk_at "mine use"); intro _ _ _ _ _; (try dsimp only))
  k_with "mine call" => (k_here; (with_reducible show wpAny _ _ (call (Value.ref 61) [Value.int _ _, Value.int _ _]) _ _ _); k_dflt (refine' use_pair (strip_zeros_spec _ _ _ _ _ _ _ _ _ ) ?k1 ?k2 ?k3 ?k4 ?k5 ?kK ?kd ?ku ?_; walk_at "mine use"); intro _ _ _ _ _ _ _ _ _ _; (try dsimp only))
  k_with "mine call" => (k_here; (with_reducible show wpAny _ _ (call (Value.ref 68) [Value.int _ _, Value.int _ _, Value.int _ _]) _ _ _); k_dflt (refine' use_pair (round_digits_spec _ _ _ _ _ _ _ _ _ _ _ ?g0 ?g1) ?k1 ?k2 ?k3 ?k4 ?k5 ?kK ?kd ?ku ?_; walk_at "mine use"; (case g0 => walk_at "mine pre"); (case g1 => walk_at "mine pre")); intro _ _ _ _ _ _ _ _ _ _; (try dsimp only))
  k_with "mine call" => (k_here; (with_reducible show wpAny _ _ (call (Value.ref 75) [Value.int _ _, Value.int _ _, Value.int _ _, Value.int _ _]) _ _ _); k_dflt (refine' use_pair (round_real_spec _ _ _ _ _ _ _ _ _ _ _ _ _ ?g0 ?g1 ?g2) ?k1 ?k2 ?k3 ?k4 ?k5 ?kK ?kd ?ku ?_; walk_at "mine use"; (case g0 => walk_at "mine pre"); (case g1 => walk_at "mine pre"); (case g2 => walk_at "mine pre")); intro _ _ _ _ _ _ _ _ _ _; (try dsimp only))
  k_with "mine call" => (k_here; (with_reducible show wpAny _ _ (call (Value.ref 117) [Value.ref _]) _ _ _); k_dflt (refine' use_int (lead_of_spec _ _ _ _ _ _ _ _ ?g0) ?k1 ?k2 ?k3 ?k4 ?k5 ?kK ?kd ?ku ?_; walk_at "mine use"; (case g0 => walk_at "mine pair")); intro _ _ _ _ _; (try dsimp only))
  k_with "mine call" => (k_here; (with_reducible show wpAny _ _ (call (Value.ref 89) [Value.ref _, Value.ref _]) _ _ _); k_dflt (refine' use_pairE (exact_mul_spec _ _ _ _ _ _ _ _ _ _ _ ?g0 ?g1 ?g2) ?k1 ?k2 ?k3 ?k4 ?k5 ?kK ?kd ?ku ?_; walk_at "mine use"; (case g0 => walk_at "mine pair"); (case g1 => walk_at "mine pair"); (case g2 => walk_at "mine ok")); intro _ _ _ _ _ _ _; (try dsimp only))
  k_with "mine call" => (k_here; (with_reducible show wpAny _ _ (call (Value.ref 96) [Value.ref _]) _ _ _); k_dflt (refine' use_pairE (real_neg_spec _ _ _ _ _ _ _ _ ?g0) ?k1 ?k2 ?k3 ?k4 ?k5 ?kK ?kd ?ku ?_; walk_at "mine use"; (case g0 => walk_at "mine pair")); intro _ _ _ _ _ _ _; (try dsimp only))
  k_with "mine call" => (k_here; (with_reducible show wpAny _ _ (call (Value.ref 313) [Value.ref _]) _ _ _); k_dflt (refine' use_pairE (halved_spec _ _ _ _ _ _ _ _ ?g0) ?k1 ?k2 ?k3 ?k4 ?k5 ?kK ?kd ?ku ?_; walk_at "mine use"; (case g0 => walk_at "mine pair")); intro _ _ _ _ _ _ _; (try dsimp only))
  k_with "mine call" => (k_here; (with_reducible show wpAny _ _ (call (Value.ref 292) [Value.int _ _]) _ _ _); k_dflt (refine' use_int (wide_top_spec _ _ _ _ _ _ _ ) ?k1 ?k2 ?k3 ?k4 ?k5 ?kK ?kd ?ku ?_; walk_at "mine use"); intro _ _ _ _ _; (try dsimp only))
  k_with "mine call" => (k_here; (with_reducible show wpAny _ _ (call (Value.ref 82) [Value.ref _, Value.ref _]) _ _ _); k_dflt (refine' use_pair (exact_add_spec _ _ _ _ _ _ _ _ _ _ _ ?g0 ?g1 ?g2) ?k1 ?k2 ?k3 ?k4 ?k5 ?kK ?kd ?ku ?_; walk_at "mine use"; (case g0 => walk_at "mine pair"); (case g1 => walk_at "mine pair"); (case g2 => walk_at "mine pre")); intro _ _ _ _ _ _ _ _ _ _; (try dsimp only))
  k_with "mine call" => (k_here; (with_reducible show wpAny _ _ (call (Value.ref 124) [Value.ref _, Value.int _ _]) _ _ _); k_dflt (refine' use_int (places_for_spec _ _ _ _ _ _ _ _ _ _ ?g0) ?k1 ?k2 ?k3 ?k4 ?k5 ?kK ?kd ?ku ?_; walk_at "mine use"; (case g0 => walk_at "mine pair")); intro _ _ _ _ _; (try dsimp only))
  k_with "mine call" => (k_here; (with_reducible show wpAny _ _ (call (Value.ref 229) [Value.ref _, Value.int _ _]) _ _ _); k_dflt (refine' use_bool (is_tiny_spec _ _ _ _ _ _ _ _ _ _ ?g0) ?k1 ?k2 ?k3 ?k4 ?k5 ?kK ?kd ?ku ?_; walk_at "mine use"; (case g0 => walk_at "mine pair")); intro _ _ _ _; (try dsimp only))
  k_with "mine call" => (k_here; (with_reducible show wpAny _ _ (call (Value.ref 131) [Value.ref _, Value.int _ _]) _ _ _); k_dflt (refine' use_int (fixed_spec _ _ _ _ _ _ _ _ _ _ ?g0 ?g1 ?g2 ?g3) ?k1 ?k2 ?k3 ?k4 ?k5 ?kK ?kd ?ku ?_; walk_at "mine use"; (case g0 => walk_at "mine pair"); (case g1 => walk_at "mine pre"); (case g2 => walk_at "mine pre"); (case g3 => walk_at "mine ok")); intro _ _ _ _ _; (try dsimp only))
  k_with "mine call" => (k_here; (with_reducible show wpAny _ _ (call (Value.ref 306) [Value.ref _]) _ _ _); k_dflt (refine' use_bool (is_nought_spec _ _ _ _ _ _ _ _ _ _ _ _ _ ?g0 ?g1 ?g2) ?k1 ?k2 ?k3 ?k4 ?k5 ?kK ?kd ?ku ?_; walk_at "mine use"; (case g0 => walk_at "mine mem"); (case g1 => walk_at "mine pair"); (case g2 => walk_at "mine pair")); intro _ _ _ _; (try dsimp only))
  k_with "mine call" => (k_here; (with_reducible show wpAny _ _ (call (Value.ref 201) [Value.ref _]) _ _ _); k_dflt (refine' use_none (check_positive_spec _ _ _ _ _ _ _ _ ?g0 ?g1) ?k1 ?k2 ?k3 ?k4 ?k5 ?kK ?kd ?ku ?_; walk_at "mine use"; (case g0 => walk_at "mine pair"); (case g1 => walk_at "mine pre")); intro _ _ _ _; (try dsimp only))
  k_with "mine call" => (k_here; (with_reducible show wpAny _ _ (call (Value.ref 145) [Value.int _ _, Value.int _ _, Value.int _ _]) _ _ _); k_dflt (refine' use_int (inverse_series_spec _ _ _ _ _ _ _ _ _ _ _ ?g0 ?g1 ?g2 ?g3) ?k1 ?k2 ?k3 ?k4 ?k5 ?kK ?kd ?ku ?_; walk_at "mine use"; (case g0 => walk_at "mine pre"); (case g1 => walk_at "mine pre"); (case g2 => walk_at "mine pre"); (case g3 => walk_at "mine pre")); intro _ _ _ _ _; (try dsimp only))
  k_with "mine call" => (k_here; (with_reducible show wpAny _ _ (call (Value.ref 152) [Value.int _ _]) _ _ _); k_dflt (refine' use_intR (log_of_ten_spec _ _ _ _ _ _ _ ?g0 ?g1) ?k1 ?k2 ?k3 ?k4 ?k5 ?kK ?kd ?ku ?_; walk_at "mine use"; (case g0 => walk_at "mine pre"); (case g1 => walk_at "mine pre")); intro _ _ _ _ _ _ _; (try dsimp only))
  k_with "mine call" => (k_here; (with_reducible show wpAny _ _ (call (Value.ref 159) [Value.int _ _]) _ _ _); k_dflt (refine' use_int (half_turn_spec _ _ _ _ _ _ _ ?g0 ?g1) ?k1 ?k2 ?k3 ?k4 ?k5 ?kK ?kd ?ku ?_; walk_at "mine use"; (case g0 => walk_at "mine pre"); (case g1 => walk_at "mine pre")); intro _ _ _ _ _; (try dsimp only))
  k_with "mine call" => (k_here; (with_reducible show wpAny _ _ (call (Value.ref 215) [Value.int _ _, Value.int _ _, Value.int _ _]) _ _ _); k_dflt (refine' use_intR (wave_fixed_spec _ _ _ _ _ _ _ _ _ _ _ ?g0 ?g1 ?g2 ?g3) ?k1 ?k2 ?k3 ?k4 ?k5 ?kK ?kd ?ku ?_; walk_at "mine use"; (case g0 => walk_at "mine pre"); (case g1 => walk_at "mine pre"); (case g2 => walk_at "mine pre"); (case g3 => walk_at "mine pre")); intro _ _ _ _ _ _ _; (try dsimp only))
  k_with "mine call" => (k_here; (with_reducible show wpAny _ _ (call (Value.ref 187) [Value.ref _, Value.int _ _, Value.int _ _]) _ _ _); k_dflt (refine' use_pairE (exp_real_spec _ _ _ _ _ _ _ _ _ _ _ ?g0) ?k1 ?k2 ?k3 ?k4 ?k5 ?kK ?kd ?ku ?_; walk_at "mine use"; (case g0 => walk_at "mine pair")); intro _ _ _ _ _ _ _; (try dsimp only))
  k_with "mine call" => (k_here; (with_reducible show wpAny _ _ (call (Value.ref 54) [Value.int 1 _]) _ _ _); k_dflt (refine' use_int (count_digits_one _ _ _ _ _ _) ?k1 ?k2 ?k3 ?k4 ?k5 ?kK ?kd ?ku ?_; walk_at "mine use"); intro _ _ _ _ _; (try dsimp only))
  k_with "mine call" => (k_here; (with_reducible show wpAny _ _ (call (Value.ref 124) [Value.ref _, Value.int _ _]) _ _ _); k_dflt (refine' use_int (places_for_spec _ _ _ _ _ _ 1 0 _ _ ?g0) ?k1 ?k2 ?k3 ?k4 ?k5 ?kK ?kd ?ku ?_; walk_at "mine use"; (case g0 => walk_at "mine pair")); intro _ _ _ _ _; (try dsimp only))
  trivial
theorem count_digits_one (w : World) (mean : ExcName → Option Value) (mg mb : Str → Option Value) (news : List (Addr × Obj)) (t : Tok) : Fn w mean mg mb 54 1 [.int 1 t] news (PInt 1) := count_digits_spec w mean mg mb news 1 t
theorem lp_term (P : Int) : ((if (1 : Int) - 10 ^ ((1 : Int) - 1).toNat < 0 then -((1 : Int) - 10 ^ ((1 : Int) - 1).toNat) else (1 : Int) - 10 ^ ((1 : Int) - 1).toNat) * 10 ^ P.toNat).fdiv (1 + 10 ^ ((1 : Int) - 1).toNat) = 0 := by
  have e : ((1 : Int) - 1).toNat = 0 := by decide
  rw [e]
  simp
theorem lp_sm (P : Int) : Sm (((if (1 : Int) - 10 ^ ((1 : Int) - 1).toNat < 0 then -((1 : Int) - 10 ^ ((1 : Int) - 1).toNat) else (1 : Int) - 10 ^ ((1 : Int) - 1).toNat) * 10 ^ P.toNat).fdiv (1 + 10 ^ ((1 : Int) - 1).toNat)) := by
  rw [lp_term]
  exact sm_int (by decide) (by decide)
set_option maxRecDepth 100000 in
set_option maxHeartbeats 1000000 in
theorem log_parts_spec (w : World) (mean : ExcName → Option Value) (mg mb : Str → Option Value) (news : List (Addr × Obj)) (D : Addr) (d : Int) (t : Tok) (hp : PairIn news D 1 0) (hd : 1 ≤ d) (hd2 : d ≤ 300) :
    Fn w mean mg mb 194 4 [.ref D, .int d t] news (PTri 0 0 (d + max d (cd (1 : Int).natAbs) + 10 + max 0 (cd (1 : Int).natAbs + 0))) := by
  have hc1 : cd (1 : Int).natAbs = 1 := rfl
  walk_at "mine start"
  k_with "exec While Compare cons nil" => k_while (fun _ term total n => term = 0 ∧ total = 0) (fun _ term _ _ => 0) "term" "total" "n"
  k_with "state" => first | exact ⟨lp_term _, rfl⟩
  k_with "mine ne" => first | decide | exact pow_ne
  k_with "mine sm" => first | exact lp_sm _ | exact sm_pow (by omega) | exact sm_pow (by decide) | exact sm_int (by decide) (by decide)
  k_steps
  all_goals exact end_tri' (by assumption) (by assumption) (by assumption) (by walk_at "mine sub") (by walk_at "mine mem") (by decide) (by omega) rfl
end
section
theorem words_S13 : True := by
  k_with_none
  k_with "mine call" => (k_here; (with_reducible show wpAny _ _ (call (Value.ref 54) [Value.int _ _]) _ _ _); k_dflt (refine' use_int (count_digits_spec _ _ _ _ _ _ _ ) ?k1 ?k2 ?k3 ?k4 ?k5 ?kK ?kd ?ku ?_; walk_at "mine use"); intro _ _ _ _ _; (try dsimp only))
  k_with "mine call" => (k_here; (with_reducible show wpAny _ _ (call (Value.ref 61) [Value.int _ _, Value.int _ _]) _ _ _); k_dflt (refine' use_pair (strip_zeros_spec _ _ _ _ _ _ _ _ _ ) ?k1 ?k2 ?k3 ?k4 ?k5 ?kK ?kd ?ku ?_; walk_at "mine use"); intro _ _ _ _ _ _ _ _ _ _; (try dsimp only))
  k_with "mine call" => (k_here; (with_reducible show wpAny _ _ (call (Value.ref 68) [Value.int _ _, Value.int _ _, Value.int _ _]) _ _ _); k_dflt (refine' use_pair (round_digits_spec _ _ _ _ _ _ _ _ _ _ _ ?g0 ?g1) ?k1 ?k2 ?k3 ?k4 ?k5 ?kK ?kd ?ku ?_; walk_at "mine use"; (case g0 => walk_at "mine pre"); (case g1 => walk_at "mine pre")); intro _ _ _ _ _ _ _ _ _ _; (try dsimp only))
  k_with "mine call" => (k_here; (with_reducible show wpAny _ _ (call (Value.ref 75) [Value.int _ _, Value.int _ _, Value.int _ _, Value.int _ _]) _ _ _); k_dflt (refine' use_pair (round_real_spec _ _ _ _ _ _ _ _ _ _ _ _ _ ?g0 ?g1 ?g2) ?k1 ?k2 ?k3 ?k4 ?k5 ?kK ?kd ?ku ?_; walk_at "mine use"; (case g0 => walk_at "mine pre"); (case g1 => walk_at "mine pre"); (case g2 => walk_at "mine pre")); intro _ _ _ _ _ _ _ _ _ _; (try dsimp only))
  k_with "mine call" => (k_here; (with_reducible show wpAny _ _ (call (Value.ref 117) [Value.ref _]) _ _ _); k_dflt (refine' use_int (lead_of_spec _ _ _ _ _ _ _ _ ?g0) ?k1 ?k2 ?k3 ?k4 ?k5 ?kK ?kd ?ku ?_; walk_at "mine use"; (case g0 => walk_at "mine pair")); intro _ _ _ _ _; (try dsimp only))
  k_with "mine call" => (k_here; (with_reducible show wpAny _ _ (call (Value.ref 89) [Value.ref _, Value.ref _]) _ _ _); k_dflt (refine' use_pairE (exact_mul_spec _ _ _ _ _ _ _ _ _ _ _ ?g0 ?g1 ?g2) ?k1 ?k2 ?k3 ?k4 ?k5 ?kK ?kd ?ku ?_; walk_at "mine use"; (case g0 => walk_at "mine pair"); (case g1 => walk_at "mine pair"); (case g2 => walk_at "mine ok")); intro _ _ _ _ _ _ _; (try dsimp only))
  k_with "mine call" => (k_here; (with_reducible show wpAny _ _ (call (Value.ref 96) [Value.ref _]) _ _ _); k_dflt (refine' use_pairE (real_neg_spec _ _ _ _ _ _ _ _ ?g0) ?k1 ?k2 ?k3 ?k4 ?k5 ?kK ?kd ?ku ?_; walk_at "mine use"; (case g0 => walk_at "mine pair")); intro _ _ _ _ _ _ _; (try dsimp only))
  k_with "mine call" => (k_here; (with_reducible show wpAny _ _ (call (Value.ref 313) [Value.ref _]) _ _ _); k_dflt (refine' use_pairE (halved_spec _ _ _ _ _ _ _ _ ?g0) ?k1 ?k2 ?k3 ?k4 ?k5 ?kK ?kd ?ku ?_; walk_at "mine use"; (case g0 => walk_at "mine pair")); intro _ _ _ _ _ _ _; (try dsimp only))
  k_with "mine call" => (k_here; (with_reducible show wpAny _ _ (call (Value.ref 292) [Value.int _ _]) _ _ _); k_dflt (refine' use_int (wide_top_spec _ _ _ _ _ _ _ ) ?k1 ?k2 ?k3 ?k4 ?k5 ?kK ?kd ?ku ?_; walk_at "mine use"); intro _ _ _ _ _; (try dsimp only))
  k_with "mine call" => (k_here; (with_reducible show wpAny _ _ (call (Value.ref 82) [Value.ref _, Value.ref _]) _ _ _); k_dflt (refine' use_pair (exact_add_spec _ _ _ _ _ _ _ _ _ _ _ ?g0 ?g1 ?g2) ?k1 ?k2 ?k3 ?k4 ?k5 ?kK ?kd ?ku ?_; walk_at "mine use"; (case g0 => walk_at "mine pair"); (case g1 => walk_at "mine pair"); (case g2 => walk_at "mine pre")); intro _ _ _ _ _ _ _ _ _ _; (try dsimp only))
  k_with "mine call" => (k_here; (with_reducible show wpAny _ _ (call (Value.ref 124) [Value.ref _, Value.int _ _]) _ _ _); k_dflt (refine' use_int (places_for_spec _ _ _ _ _ _ _ _ _ _ ?g0) ?k1 ?k2 ?k3 ?k4 ?k5 ?kK ?kd ?ku ?_; walk_at "mine use"; (case g0 => walk_at "mine pair")); intro _ _ _ _ _; (try dsimp only))
  k_with "mine call" => (k_here; (with_reducible show wpAny _ _ (call (Value.ref 229) [Value.ref _, Value.int _ _]) _ _ _); k_dflt (refine' use_bool (is_tiny_spec _ _ _ _ _ _ _ _ _ _ ?g0) ?k1 ?k2 ?k3 ?k4 ?k5 ?kK ?kd ?ku ?_; walk_at "mine use"; (case g0 => walk_at "mine pair")); intro _ _ _ _; (try dsimp only))
  k_with "mine call" => (k_here; (with_reducible show wpAny _ _ (call (Value.ref 131) [Value.ref _, Value.int _ _]) _ _ _); k_dflt (refine' use_int (fixed_spec _ _ _ _ _ _ _ _ _ _ ?g0 ?g1 ?g2 ?g3) ?k1 ?k2 ?k3 ?k4 ?k5 ?kK ?kd ?ku ?_; walk_at "mine use"; (case g0 => walk_at "mine pair"); (case g1 => walk_at "mine pre"); (case g2 => walk_at "mine pre"); (case g3 => walk_at "mine ok")); intro _ _ _ _ _; (try dsimp only))
  k_with "mine call" => (k_here; (with_reducible show wpAny _ _ (call (Value.ref 306) [Value.ref _]) _ _ _); k_dflt (refine' use_bool (is_nought_spec _ _ _ _ _ _ _ _ _ _ _ _ _ ?g0 ?g1 ?g2) ?k1 ?k2 ?k3 ?k4 ?k5 ?kK ?kd ?ku ?_; walk_at "mine use"; (case g0 => walk_at "mine mem"); (case g1 => walk_at "mine pair"); (case g2 => walk_at "mine pair")); intro _ _ _ _; (try dsimp only))
  k_with "mine call" => (k_here; (with_reducible show wpAny _ _ (call (Value.ref 201) [Value.ref _]) _ _ _); k_dflt (refine' use_none (check_positive_spec _ _ _ _ _ _ _ _ ?g0 ?g1) ?k1 ?k2 ?k3 ?k4 ?k5 ?kK ?kd ?ku ?_; walk_at "mine use"; (case g0 => walk_at "mine pair"); (case g1 => walk_at "mine pre")); intro _ _ _ _; (try dsimp only))
  k_with "mine call" => (k_here; (with_reducible show wpAny _ _ (call (Value.ref 145) [Value.int _ _, Value.int _ _, Value.int _ _]) _ _ _); k_dflt (refine' use_int (inverse_series_spec _ _ _ _ _ _ _ _ _ _ _ ?g0 ?g1 ?g2 ?g3) ?k1 ?k2 ?k3 ?k4 ?k5 ?kK ?kd ?ku ?_; walk_at "mine use"; (case g0 => walk_at "mine pre"); (case g1 => walk_at "mine pre"); (case g2 => walk_at "mine pre"); (case g3 => walk_at "mine pre")); intro _ _ _ _ _; (try dsimp only))
  k_with "mine call" => (k_here; (with_reducible show wpAny _ _ (call (Value.ref 152) [Value.int _ _]) _ _ _); k_dflt (refine' use_intR (log_of_ten_spec _ _ _ _ _ _ _ ?g0 ?g1) ?k1 ?k2 ?k3 ?k4 ?k5 ?kK ?kd ?ku ?_; walk_at "mine use"; (case g0 => walk_at "mine pre"); (case g1 => walk_at "mine pre")); intro _ _ _ _ _ _ _; (try dsimp only))
  k_with "mine call" => (k_here; (with_reducible show wpAny _ _ (call (Value.ref 159) [Value.int _ _]) _ _ _); k_dflt (refine' use_int (half_turn_spec _ _ _ _ _ _ _ ?g0 ?g1) ?k1 ?k2 ?k3 ?k4 ?k5 ?kK ?kd ?ku ?_; walk_at "mine use"; (case g0 => walk_at "mine pre"); (case g1 => walk_at "mine pre")); intro _ _ _ _ _; (try dsimp only))
  k_with "mine call" => (k_here; (with_reducible show wpAny _ _ (call (Value.ref 215) [Value.int _ _, Value.int _ _, Value.int _ _]) _ _ _); k_dflt (refine' use_intR (wave_fixed_spec _ _ _ _ _ _ _ _ _ _ _ ?g0 ?g1 ?g2 ?g3) ?k1 ?k2 ?k3 ?k4 ?k5 ?kK ?kd ?ku ?_; walk_at "mine use"; (case g0 => walk_at "mine pre"); (case g1 => walk_at "mine pre"); (case g2 => walk_at "mine pre"); (case g3 => walk_at "mine pre")); intro _ _ _ _ _ _ _; (try dsimp only))
  k_with "mine call" => (k_here; (with_reducible show wpAny _ _ (call (Value.ref 187) [Value.ref _, Value.int _ _, Value.int _ _]) _ _ _); k_dflt (refine' use_pairE (exp_real_spec _ _ _ _ _ _ _ _ _ _ _ ?g0) ?k1 ?k2 ?k3 ?k4 ?k5 ?kK ?kd ?ku ?_; walk_at "mine use"; (case g0 => walk_at "mine pair")); intro _ _ _ _ _ _ _; (try dsimp only))
  k_with "mine call" => (k_here; (with_reducible show wpAny _ _ (call (Value.ref 194) [Value.ref _, Value.int _ _]) _ _ _); k_dflt (refine' use_tri (log_parts_spec _ _ _ _ _ _ _ _ ?g0 ?g1 ?g2) ?k1 ?k2 ?k3 ?k4 ?k5 ?kK ?kd ?ku ?_; walk_at "mine use"; (case g0 => walk_at "mine pair"); (case g1 => walk_at "mine pre"); (case g2 => walk_at "mine pre")); intro _ _ _ _ _ _ _ _ _ _ _; (try dsimp only))
  trivial

theorem zero_form (x : Int) : 0 * x + 0 = 0 := by simp
theorem lr_pre1 (x : Int) : cd (0 * x + 0 : Int).natAbs ≤ 900 := by rw [zero_form]; decide
theorem lr_pre2 {x P top : Int} (hP : 0 ≤ P) (ht : 1 ≤ top) : (cd (0 * x + 0 : Int).natAbs : Int) + -P ≤ top := by
  rw [zero_form, show ((cd (0 : Int).natAbs : Nat) : Int) = 0 from rfl]
  omega
theorem lr_nil {x e d top a b : Int} (h : RR (0 * x + 0) e d top a b) : a = 0 ∧ b = 0 := by
  rw [zero_form] at h
  exact rr_nil h
set_option maxRecDepth 100000 in
set_option maxHeartbeats 1000000 in
theorem log_real_spec (w : World) (mean : ExcName → Option Value) (mg mb : Str → Option Value) (news : List (Addr × Obj)) (D : Addr) (d top : Int) (t u : Tok) (hp : PairIn news D 1 0) (hd : 1 ≤ d) (hd2 : d ≤ 300) (ht : 1 ≤ top) :
    Fn w mean mg mb 208 5 [.ref D, .int d t, .int top u] news (PPairE 0 0) := by
  have hc1 : cd (1 : Int).natAbs = 1 := rfl
  have h01 : (0 : Int) < 1 := by decide
  walk_at "mine start"
  k_with "mine pre" => first | exact lr_pre1 _ | exact lr_pre2 (by omega) ht
  k_steps
  all_goals (obtain ⟨rfl, rfl⟩ := lr_nil (by assumption); walk_at "mine endE")
set_option maxRecDepth 100000 in
set_option maxHeartbeats 1000000 in
theorem straight_angle_spec (w : World) (mean : ExcName → Option Value) (mg mb : Str → Option Value) (news : List (Addr × Obj)) (D : Addr) (a b k d top : Int) (t u v : Tok) (hp : PairIn news D a b) (hk0 : 0 ≤ k) (hk1 : k ≤ 4) (hd : 1 ≤ d) (hd2 : d ≤ 300) (hA : (cd ((k * halfTurn (d + 10)).fdiv 2).natAbs : Int) ≤ d + 12) (ht : 2 ≤ top) :
    Fn w mean mg mb 264 4 [.ref D, .int k t, .int d u, .int top v] news (PPair (RR (if a < 0 then -(k * halfTurn (d + 10)).fdiv 2 else (k * halfTurn (d + 10)).fdiv 2) (-(d + 10)) d top)) := by
  walk_at "mine start"
  k_with "mine sm" => exact sm_int (by decide) (by decide)
  k_with "mine pre" => (simp only [Int.natAbs_neg]; omega)
  k_steps
  all_goals walk_at "mine endp"
  all_goals first | (rw [if_pos (by assumption)]; assumption) | (rw [if_neg (by assumption)]; assumption)
end
section
local macro_rules | `(tactic| walk_at "mine dummy") => `(tactic| skip)
theorem words_S14 : True := by
  k_with_none
  k_with "mine call" => (k_here; (with_reducible show wpAny _ _ (call (Value.ref 54) [Value.int _ _]) _ _ _); k_dflt (refine' use_int (count_digits_spec _ _ _ _ _ _ _ ) ?k1 ?k2 ?k3 ?k4 ?k5 ?kK ?kd ?ku ?_; walk_at "mine use"); intro _ _ _ _ _; (try dsimp only))
  k_with "mine call" => (k_here; (with_reducible show wpAny _ _ (call (Value.ref 61) [Value.int _ _, Value.int _ _]) _ _ _); k_dflt (refine' use_pair (strip_zeros_spec _ _ _ _ _ _ _ _ _ ) ?k1 ?k2 ?k3 ?k4 ?k5 ?kK ?kd ?ku ?_; walk_at "mine use"); intro _ _ _ _ _ _ _ _ _ _; (try dsimp only))
  k_with "mine call" => (k_here; (with_reducible show wpAny _ _ (call (Value.ref 68) [Value.int _ _, Value.int _ _, Value.int _ _]) _ _ _); k_dflt (refine' use_pair (round_digits_spec _ _ _ _ _ _ _ _ _ _ _ ?g0 ?g1) ?k1 ?k2 ?k3 ?k4 ?k5 ?kK ?kd ?ku ?_; walk_at "mine use"; (case g0 => walk_at "mine pre"); (case g1 => walk_at "mine pre")); intro _ _ _ _ _ _ _ _ _ _; (try dsimp only))
  k_with "mine call" => (k_here; (with_reducible show wpAny _ _ (call (Value.ref 75) [Value.int _ _, Value.int _ _, Value.int _ _, Value.int _ _]) _ _ _); k_dflt (refine' use_pair (round_real_spec _ _ _ _ _ _ _ _ _ _ _ _ _ ?g0 ?g1 ?g2) ?k1 ?k2 ?k3 ?k4 ?k5 ?kK ?kd ?ku ?_; walk_at "mine use"; (case g0 => walk_at "mine pre"); (case g1 => walk_at "mine pre"); (case g2 => walk_at "mine pre")); intro _ _ _ _ _ _ _ _ _ _; (try dsimp only))
  k_with "mine call" => (k_here; (with_reducible show wpAny _ _ (call (Value.ref 117) [Value.ref _]) _ _ _); k_dflt (refine' use_int (lead_of_spec _ _ _ _ _ _ _ _ ?g0) ?k1 ?k2 ?k3 ?k4 ?k5 ?kK ?kd ?ku ?_; walk_at "mine use"; (case g0 => walk_at "mine pair")); intro _ _ _ _ _; (try dsimp only))
  k_with "mine call" => (k_here; (with_reducible show wpAny _ _ (call (Value.ref 89) [Value.ref _, Value.ref _]) _ _ _); k_dflt (refine' use_pairE (exact_mul_spec _ _ _ _ _ _ _ _ _ _ _ ?g0 ?g1 ?g2) ?k1 ?k2 ?k3 ?k4 ?k5 ?kK ?kd ?ku ?_; walk_at "mine use"; (case g0 => walk_at "mine pair"); (case g1 => walk_at "mine pair"); (case g2 => walk_at "mine ok")); intro _ _ _ _ _ _ _; (try dsimp only))
  k_with "mine call" => (k_here; (with_reducible show wpAny _ _ (call (Value.ref 96) [Value.ref _]) _ _ _); k_dflt (refine' use_pairE (real_neg_spec _ _ _ _ _ _ _ _ ?g0) ?k1 ?k2 ?k3 ?k4 ?k5 ?kK ?kd ?ku ?_; walk_at "mine use"; (case g0 => walk_at "mine pair")); intro _ _ _ _ _ _ _; (try dsimp only))
  k_with "mine call" => (k_here; (with_reducible show wpAny _ _ (call (Value.ref 313) [Value.ref _]) _ _ _); k_dflt (refine' use_pairE (halved_spec _ _ _ _ _ _ _ _ ?g0) ?k1 ?k2 ?k3 ?k4 ?k5 ?kK ?kd ?ku ?_; walk_at "mine use"; (case g0 => walk_at "mine pair")); intro _ _ _ _ _ _ _; (try dsimp only))
  k_with "mine call" => (k_here; (with_reducible show wpAny _ _ (call (Value.ref 292) [Value.int _ _]) _ _ _); k_dflt (refine' use_int (wide_top_spec _ _ _ _ _ _ _ ) ?k1 ?k2 ?k3 ?k4 ?k5 ?kK ?kd ?ku ?_; walk_at "mine use"); intro _ _ _ _ _; (try dsimp only))
  k_with "mine call" => (k_here; (with_reducible show wpAny _ _ (call (Value.ref 82) [Value.ref _, Value.ref _]) _ _ _); k_dflt (refine' use_pair (exact_add_spec _ _ _ _ _ _ _ _ _ _ _ ?g0 ?g1 ?g2) ?k1 ?k2 ?k3 ?k4 ?k5 ?kK ?kd ?ku ?_; walk_at "mine use"; (case g0 => walk_at "mine pair"); (case g1 => walk_at "mine pair"); (case g2 => walk_at "mine pre")); intro _ _ _ _ _ _ _ _ _ _; (try dsimp only))
  k_with "mine call" => (k_here; (with_reducible show wpAny _ _ (call (Value.ref 124) [Value.ref _, Value.int _ _]) _ _ _); k_dflt (refine' use_int (places_for_spec _ _ _ _ _ _ _ _ _ _ ?g0) ?k1 ?k2 ?k3 ?k4 ?k5 ?kK ?kd ?ku ?_; walk_at "mine use"; (case g0 => walk_at "mine pair")); intro _ _ _ _ _; (try dsimp only))
  k_with "mine call" => (k_here; (with_reducible show wpAny _ _ (call (Value.ref 229) [Value.ref _, Value.int _ _]) _ _ _); k_dflt (refine' use_bool (is_tiny_spec _ _ _ _ _ _ _ _ _ _ ?g0) ?k1 ?k2 ?k3 ?k4 ?k5 ?kK ?kd ?ku ?_; walk_at "mine use"; (case g0 => walk_at "mine pair")); intro _ _ _ _; (try dsimp only))
  k_with "mine call" => (k_here; (with_reducible show wpAny _ _ (call (Value.ref 131) [Value.ref _, Value.int _ _]) _ _ _); k_dflt (refine' use_int (fixed_spec _ _ _ _ _ _ _ _ _ _ ?g0 ?g1 ?g2 ?g3) ?k1 ?k2 ?k3 ?k4 ?k5 ?kK ?kd ?ku ?_; walk_at "mine use"; (case g0 => walk_at "mine pair"); (case g1 => walk_at "mine pre"); (case g2 => walk_at "mine pre"); (case g3 => walk_at "mine ok")); intro _ _ _ _ _; (try dsimp only))
  k_with "mine call" => (k_here; (with_reducible show wpAny _ _ (call (Value.ref 306) [Value.ref _]) _ _ _); k_dflt (refine' use_bool (is_nought_spec _ _ _ _ _ _ _ _ _ _ _ _ _ ?g0 ?g1 ?g2) ?k1 ?k2 ?k3 ?k4 ?k5 ?kK ?kd ?ku ?_; walk_at "mine use"; (case g0 => walk_at "mine mem"); (case g1 => walk_at "mine pair"); (case g2 => walk_at "mine pair")); intro _ _ _ _; (try dsimp only))
  k_with "mine call" => (k_here; (with_reducible show wpAny _ _ (call (Value.ref 201) [Value.ref _]) _ _ _); k_dflt (refine' use_none (check_positive_spec _ _ _ _ _ _ _ _ ?g0 ?g1) ?k1 ?k2 ?k3 ?k4 ?k5 ?kK ?kd ?ku ?_; walk_at "mine use"; (case g0 => walk_at "mine pair"); (case g1 => walk_at "mine pre")); intro _ _ _ _; (try dsimp only))
  k_with "mine call" => (k_here; (with_reducible show wpAny _ _ (call (Value.ref 145) [Value.int _ _, Value.int _ _, Value.int _ _]) _ _ _); k_dflt (refine' use_int (inverse_series_spec _ _ _ _ _ _ _ _ _ _ _ ?g0 ?g1 ?g2 ?g3) ?k1 ?k2 ?k3 ?k4 ?k5 ?kK ?kd ?ku ?_; walk_at "mine use"; (case g0 => walk_at "mine pre"); (case g1 => walk_at "mine pre"); (case g2 => walk_at "mine pre"); (case g3 => walk_at "mine pre")); intro _ _ _ _ _; (try dsimp only))
  k_with "mine call" => (k_here; (with_reducible show wpAny _ _ (call (Value.ref 152) [Value.int _ _]) _ _ _); k_dflt (refine' use_intR (log_of_ten_spec _ _ _ _ _ _ _ ?g0 ?g1) ?k1 ?k2 ?k3 ?k4 ?k5 ?kK ?kd ?ku ?_; walk_at "mine use"; (case g0 => walk_at "mine pre"); (case g1 => walk_at "mine pre")); intro _ _ _ _ _ _ _; (try dsimp only))
  k_with "mine call" => (k_here; (with_reducible show wpAny _ _ (call (Value.ref 159) [Value.int _ _]) _ _ _); k_dflt (refine' use_int (half_turn_spec _ _ _ _ _ _ _ ?g0 ?g1) ?k1 ?k2 ?k3 ?k4 ?k5 ?kK ?kd ?ku ?_; walk_at "mine use"; (case g0 => walk_at "mine pre"); (case g1 => walk_at "mine pre")); intro _ _ _ _ _; (try dsimp only))
  k_with "mine call" => (k_here; (with_reducible show wpAny _ _ (call (Value.ref 215) [Value.int _ _, Value.int _ _, Value.int _ _]) _ _ _); k_dflt (refine' use_intR (wave_fixed_spec _ _ _ _ _ _ _ _ _ _ _ ?g0 ?g1 ?g2 ?g3) ?k1 ?k2 ?k3 ?k4 ?k5 ?kK ?kd ?ku ?_; walk_at "mine use"; (case g0 => walk_at "mine pre"); (case g1 => walk_at "mine pre"); (case g2 => walk_at "mine pre"); (case g3 => walk_at "mine pre")); intro _ _ _ _ _ _ _; (try dsimp only))
  k_with "mine call" => (k_here; (with_reducible show wpAny _ _ (call (Value.ref 187) [Value.ref _, Value.int _ _, Value.int _ _]) _ _ _); k_dflt (refine' use_pairE (exp_real_spec _ _ _ _ _ _ _ _ _ _ _ ?g0) ?k1 ?k2 ?k3 ?k4 ?k5 ?kK ?kd ?ku ?_; walk_at "mine use"; (case g0 => walk_at "mine pair")); intro _ _ _ _ _ _ _; (try dsimp only))
  k_with "mine call" => (k_here; (with_reducible show wpAny _ _ (call (Value.ref 208) [Value.ref _, Value.int _ _, Value.int _ _]) _ _ _); k_dflt (refine' use_pairE (log_real_spec _ _ _ _ _ _ _ _ _ _ ?g0 ?g1 ?g2 ?g3) ?k1 ?k2 ?k3 ?k4 ?k5 ?kK ?kd ?ku ?_; walk_at "mine use"; (case g0 => walk_at "mine pair"); (case g1 => walk_at "mine pre"); (case g2 => walk_at "mine pre"); (case g3 => walk_at "mine pre")); intro _ _ _ _ _ _ _; (try dsimp only))
  k_with "mine call" => (k_here; (with_reducible show wpAny _ _ (call (Value.ref 264) [Value.ref _, Value.int _ _, Value.int _ _, Value.int _ _]) _ _ _); k_dflt (refine' use_pair (straight_angle_spec _ _ _ _ _ _ _ _ _ _ _ _ _ _ ?g0 ?g1 ?g2 ?g3 ?g4 ?g5 ?g6) ?k1 ?k2 ?k3 ?k4 ?k5 ?kK ?kd ?ku ?_; walk_at "mine use"; (case g0 => walk_at "mine pair"); (case g1 => walk_at "mine pre"); (case g2 => walk_at "mine pre"); (case g3 => walk_at "mine pre"); (case g4 => walk_at "mine pre"); (case g5 => walk_at "mine pre"); (case g6 => walk_at "mine pre")); intro _ _ _ _ _ _ _ _ _ _; (try dsimp only))
  trivial
def UnitIs (k a c : Int) : Prop := (k = 0 ∧ a = 1 ∧ c = 0) ∨ (k = 1 ∧ a = 0 ∧ c = 1) ∨ (k = 2 ∧ a = -1 ∧ c = 0) ∨ (k = 3 ∧ a = 0 ∧ c = -1)
def angF (k d : Int) : Int := if k = 0 then 0 else if k = 1 then (1 * halfTurn (d + 10)).fdiv 2 else if k = 2 then (2 * halfTurn (d + 10)).fdiv 2 else -(1 * halfTurn (d + 10)).fdiv 2
def ThetaR (k d top x y : Int) : Prop := (k = 0 ∧ x = 0 ∧ y = 0) ∨ (k ≠ 0 ∧ RR (angF k d) (-(d + 10)) d top x y)
theorem theta0 {d top : Int} : ThetaR 0 d top 0 0 := .inl ⟨rfl, rfl, rfl⟩
theorem theta1 {d top x y : Int} (h : RR (if (1 : Int) < 0 then -(1 * halfTurn (d + 10)).fdiv 2 else (1 * halfTurn (d + 10)).fdiv 2) (-(d + 10)) d top x y) : ThetaR 1 d top x y := .inr ⟨by decide, h⟩
theorem theta2 {d top x y : Int} (h : RR (if (0 : Int) < 0 then -(2 * halfTurn (d + 10)).fdiv 2 else (2 * halfTurn (d + 10)).fdiv 2) (-(d + 10)) d top x y) : ThetaR 2 d top x y := .inr ⟨by decide, h⟩
theorem theta3 {d top x y : Int} (h : RR (if (-1 : Int) < 0 then -(1 * halfTurn (d + 10)).fdiv 2 else (1 * halfTurn (d + 10)).fdiv 2) (-(d + 10)) d top x y) : ThetaR 3 d top x y := .inr ⟨by decide, h⟩
theorem unit_sq {k a c p q : Int} (hu : UnitIs k a c) (h : (a * a = 0 → p = c * c ∧ q = 0 + 0) ∧ (a * a ≠ 0 → p = a * a ∧ q = 0 + 0)) : p = 1 ∧ q = 0 := by
  rcases hu with ⟨_, rfl, rfl⟩ | ⟨_, rfl, rfl⟩ | ⟨_, rfl, rfl⟩ | ⟨_, rfl, rfl⟩
  · exact h.2 (by decide)
  · exact h.1 (by decide)
  · exact h.2 (by decide)
  · exact h.1 (by decide)
theorem unit_or {k a c : Int} (hu : UnitIs k a c) : a * a = 0 ∨ c * c = 0 := by
  rcases hu with ⟨_, rfl, rfl⟩ | ⟨_, rfl, rfl⟩ | ⟨_, rfl, rfl⟩ | ⟨_, rfl, rfl⟩ <;> simp
theorem unit_sm {k a c : Int} (hu : UnitIs k a c) : Sm a ∧ Sm c := by
  rcases hu with ⟨_, rfl, rfl⟩ | ⟨_, rfl, rfl⟩ | ⟨_, rfl, rfl⟩ | ⟨_, rfl, rfl⟩ <;> exact ⟨sm_int (by decide) (by decide), sm_int (by decide) (by decide)⟩
theorem unit_not {k a c : Int} (hu : UnitIs k a c) : decide (a = 0 ∧ c = 0) = false := by
  rcases hu with ⟨_, rfl, rfl⟩ | ⟨_, rfl, rfl⟩ | ⟨_, rfl, rfl⟩ | ⟨_, rfl, rfl⟩ <;> decide
set_option maxRecDepth 100000 in
set_option maxHeartbeats 1000000 in
theorem atan2_real_spec (w : World) (mean : ExcName → Option Value) (mg mb : Str → Option Value) (news : List (Addr × Obj)) (C D : Addr) (c a k d top : Int) (t u : Tok) (hq : PairIn news C c 0) (hp : PairIn news D a 0) (hu : UnitIs k a c) (hd : 1 ≤ d) (hd2 : d ≤ 300) (ht : 2 ≤ top)
    (hA1 : (cd ((1 * halfTurn (d + 10)).fdiv 2).natAbs : Int) ≤ d + 12) (hA2 : (cd ((2 * halfTurn (d + 10)).fdiv 2).natAbs : Int) ≤ d + 12) :
    Fn w mean mg mb 271 5 [.ref C, .ref D, .int d t, .int top u] news (PPair (ThetaR k d top)) := by
  rcases hu with ⟨rfl, rfl, rfl⟩ | ⟨rfl, rfl, rfl⟩ | ⟨rfl, rfl, rfl⟩ | ⟨rfl, rfl, rfl⟩
  all_goals walk_at "mine start"
  all_goals k_steps
  all_goals walk_at "mine endp"
  · exact theta0
  · exact theta1 (by assumption)
  · exact theta2 (by assumption)
  · exact theta3 (by assumption)
set_option maxRecDepth 100000 in
set_option maxHeartbeats 1000000 in
theorem size_square_spec (w : World) (mean : ExcName → Option Value) (mg mb : Str → Option Value) (news : List (Addr × Obj)) (Z D C : Addr) (n : Nat) (k a c : Int) (hz : (Z, refsObj D C n) ∈ news) (hp : PairIn news D a 0) (hq : PairIn news C c 0) (hu : UnitIs k a c) :
    Fn w mean mg mb 299 2 [.ref Z] news (PPairE 1 0) := by
  have h1 := (unit_sm hu).1
  have h2 := (unit_sm hu).2
  have h3 := unit_or hu
  walk_at "mine start"
  k_steps
  all_goals exact end_pair (by assumption) (by assumption) (by assumption) (by walk_at "mine sub") (by walk_at "mine pair") (unit_sq hu (by assumption))
end
section
theorem words_S15 : True := by
  k_with_none
  k_with "mine call" => (k_here; (with_reducible show wpAny _ _ (call (Value.ref 54) [Value.int _ _]) _ _ _); k_dflt (refine' use_int (count_digits_spec _ _ _ _ _ _ _ ) ?k1 ?k2 ?k3 ?k4 ?k5 ?kK ?kd ?ku ?_; walk_at "mine use"); intro _ _ _ _ _; (try dsimp only))
  k_with "mine call" => (k_here; (with_reducible show wpAny _ _ (call (Value.ref 61) [Value.int _ _, Value.int _ _]) _ _ _); k_dflt (refine' use_pair (strip_zeros_spec _ _ _ _ _ _ _ _ _ ) ?k1 ?k2 ?k3 ?k4 ?k5 ?kK ?kd ?ku ?_; walk_at "mine use"); intro _ _ _ _ _ _ _ _ _ _; (try dsimp only))
  k_with "mine call" => (k_here; (with_reducible show wpAny _ _ (call (Value.ref 68) [Value.int _ _, Value.int _ _, Value.int _ _]) _ _ _); k_dflt (refine' use_pair (round_digits_spec _ _ _ _ _ _ _ _ _ _ _ ?g0 ?g1) ?k1 ?k2 ?k3 ?k4 ?k5 ?kK ?kd ?ku ?_; walk_at "mine use"; (case g0 => walk_at "mine pre"); (case g1 => walk_at "mine pre")); intro _ _ _ _ _ _ _ _ _ _; (try dsimp only))
  k_with "mine call" => (k_here; (with_reducible show wpAny _ _ (call (Value.ref 75) [Value.int _ _, Value.int _ _, Value.int _ _, Value.int _ _]) _ _ _); k_dflt (refine' use_pair (round_real_spec _ _ _ _ _ _ _ _ _ _ _ _ _ ?g0 ?g1 ?g2) ?k1 ?k2 ?k3 ?k4 ?k5 ?kK ?kd ?ku ?_; walk_at "mine use"; (case g0 => walk_at "mine pre"); (case g1 => walk_at "mine pre"); (case g2 => walk_at "mine pre")); intro _ _ _ _ _ _ _ _ _ _; (try dsimp only))
  k_with "mine call" => (k_here; (with_reducible show wpAny _ _ (call (Value.ref 117) [Value.ref _]) _ _ _); k_dflt (refine' use_int (lead_of_spec _ _ _ _ _ _ _ _ ?g0) ?k1 ?k2 ?k3 ?k4 ?k5 ?kK ?kd ?ku ?_; walk_at "mine use"; (case g0 => walk_at "mine pair")); intro _ _ _ _ _; (try dsimp only))
  k_with "mine call" => (k_here; (with_reducible show wpAny _ _ (call (Value.ref 89) [Value.ref _, Value.ref _]) _ _ _); k_dflt (refine' use_pairE (exact_mul_spec _ _ _ _ _ _ _ _ _ _ _ ?g0 ?g1 ?g2) ?k1 ?k2 ?k3 ?k4 ?k5 ?kK ?kd ?ku ?_; walk_at "mine use"; (case g0 => walk_at "mine pair"); (case g1 => walk_at "mine pair"); (case g2 => walk_at "mine ok")); intro _ _ _ _ _ _ _; (try dsimp only))
  k_with "mine call" => (k_here; (with_reducible show wpAny _ _ (call (Value.ref 96) [Value.ref _]) _ _ _); k_dflt (refine' use_pairE (real_neg_spec _ _ _ _ _ _ _ _ ?g0) ?k1 ?k2 ?k3 ?k4 ?k5 ?kK ?kd ?ku ?_; walk_at "mine use"; (case g0 => walk_at "mine pair")); intro _ _ _ _ _ _ _; (try dsimp only))
  k_with "mine call" => (k_here; (with_reducible show wpAny _ _ (call (Value.ref 313) [Value.ref _]) _ _ _); k_dflt (refine' use_pairE (halved_spec _ _ _ _ _ _ _ _ ?g0) ?k1 ?k2 ?k3 ?k4 ?k5 ?kK ?kd ?ku ?_; walk_at "mine use"; (case g0 => walk_at "mine pair")); intro _ _ _ _ _ _ _; (try dsimp only))
  k_with "mine call" => (k_here; (with_reducible show wpAny _ _ (call (Value.ref 292) [Value.int _ _]) _ _ _); k_dflt (refine' use_int (wide_top_spec _ _ _ _ _ _ _ ) ?k1 ?k2 ?k3 ?k4 ?k5 ?kK ?kd ?ku ?_; walk_at "mine use"); intro _ _ _ _ _; (try dsimp only))
  k_with "mine call" => (k_here; (with_reducible show wpAny _ _ (call (Value.ref 82) [Value.ref _, Value.ref _]) _ _ _); k_dflt (refine' use_pair (exact_add_spec _ _ _ _ _ _ _ _ _ _ _ ?g0 ?g1 ?g2) ?k1 ?k2 ?k3 ?k4 ?k5 ?kK ?kd ?ku ?_; walk_at "mine use"; (case g0 => walk_at "mine pair"); (case g1 => walk_at "mine pair"); (case g2 => walk_at "mine pre")); intro _ _ _ _ _ _ _ _ _ _; (try dsimp only))
  k_with "mine call" => (k_here; (with_reducible show wpAny _ _ (call (Value.ref 124) [Value.ref _, Value.int _ _]) _ _ _); k_dflt (refine' use_int (places_for_spec _ _ _ _ _ _ _ _ _ _ ?g0) ?k1 ?k2 ?k3 ?k4 ?k5 ?kK ?kd ?ku ?_; walk_at "mine use"; (case g0 => walk_at "mine pair")); intro _ _ _ _ _; (try dsimp only))
  k_with "mine call" => (k_here; (with_reducible show wpAny _ _ (call (Value.ref 229) [Value.ref _, Value.int _ _]) _ _ _); k_dflt (refine' use_bool (is_tiny_spec _ _ _ _ _ _ _ _ _ _ ?g0) ?k1 ?k2 ?k3 ?k4 ?k5 ?kK ?kd ?ku ?_; walk_at "mine use"; (case g0 => walk_at "mine pair")); intro _ _ _ _; (try dsimp only))
  k_with "mine call" => (k_here; (with_reducible show wpAny _ _ (call (Value.ref 131) [Value.ref _, Value.int _ _]) _ _ _); k_dflt (refine' use_int (fixed_spec _ _ _ _ _ _ _ _ _ _ ?g0 ?g1 ?g2 ?g3) ?k1 ?k2 ?k3 ?k4 ?k5 ?kK ?kd ?ku ?_; walk_at "mine use"; (case g0 => walk_at "mine pair"); (case g1 => walk_at "mine pre"); (case g2 => walk_at "mine pre"); (case g3 => walk_at "mine ok")); intro _ _ _ _ _; (try dsimp only))
  k_with "mine call" => (k_here; (with_reducible show wpAny _ _ (call (Value.ref 306) [Value.ref _]) _ _ _); k_dflt (refine' use_bool (is_nought_spec _ _ _ _ _ _ _ _ _ _ _ _ _ ?g0 ?g1 ?g2) ?k1 ?k2 ?k3 ?k4 ?k5 ?kK ?kd ?ku ?_; walk_at "mine use"; (case g0 => walk_at "mine mem"); (case g1 => walk_at "mine pair"); (case g2 => walk_at "mine pair")); intro _ _ _ _; (try dsimp only))
  k_with "mine call" => (k_here; (with_reducible show wpAny _ _ (call (Value.ref 201) [Value.ref _]) _ _ _); k_dflt (refine' use_none (check_positive_spec _ _ _ _ _ _ _ _ ?g0 ?g1) ?k1 ?k2 ?k3 ?k4 ?k5 ?kK ?kd ?ku ?_; walk_at "mine use"; (case g0 => walk_at "mine pair"); (case g1 => walk_at "mine pre")); intro _ _ _ _; (try dsimp only))
  k_with "mine call" => (k_here; (with_reducible show wpAny _ _ (call (Value.ref 145) [Value.int _ _, Value.int _ _, Value.int _ _]) _ _ _); k_dflt (refine' use_int (inverse_series_spec _ _ _ _ _ _ _ _ _ _ _ ?g0 ?g1 ?g2 ?g3) ?k1 ?k2 ?k3 ?k4 ?k5 ?kK ?kd ?ku ?_; walk_at "mine use"; (case g0 => walk_at "mine pre"); (case g1 => walk_at "mine pre"); (case g2 => walk_at "mine pre"); (case g3 => walk_at "mine pre")); intro _ _ _ _ _; (try dsimp only))
  k_with "mine call" => (k_here; (with_reducible show wpAny _ _ (call (Value.ref 152) [Value.int _ _]) _ _ _); k_dflt (refine' use_intR (log_of_ten_spec _ _ _ _ _ _ _ ?g0 ?g1) ?k1 ?k2 ?k3 ?k4 ?k5 ?kK ?kd ?ku ?_; walk_at "mine use"; (case g0 => walk_at "mine pre"); (case g1 => walk_at "mine pre")); intro _ _ _ _ _ _ _; (try dsimp only))
  k_with "mine call" => (k_here; (with_reducible show wpAny _ _ (call (Value.ref 159) [Value.int _ _]) _ _ _); k_dflt (refine' use_int (half_turn_spec _ _ _ _ _ _ _ ?g0 ?g1) ?k1 ?k2 ?k3 ?k4 ?k5 ?kK ?kd ?ku ?_; walk_at "mine use"; (case g0 => walk_at "mine pre"); (case g1 => walk_at "mine pre")); intro _ _ _ _ _; (try dsimp only))
  k_with "mine call" => (k_here; (with_reducible show wpAny _ _ (call (Value.ref 215) [Value.int _ _, Value.int _ _, Value.int _ _]) _ _ _); k_dflt (refine' use_intR (wave_fixed_spec _ _ _ _ _ _ _ _ _ _ _ ?g0 ?g1 ?g2 ?g3) ?k1 ?k2 ?k3 ?k4 ?k5 ?kK ?kd ?ku ?_; walk_at "mine use"; (case g0 => walk_at "mine pre"); (case g1 => walk_at "mine pre"); (case g2 => walk_at "mine pre"); (case g3 => walk_at "mine pre")); intro _ _ _ _ _ _ _; (try dsimp only))
  k_with "mine call" => (k_here; (with_reducible show wpAny _ _ (call (Value.ref 187) [Value.ref _, Value.int _ _, Value.int _ _]) _ _ _); k_dflt (refine' use_pairE (exp_real_spec _ _ _ _ _ _ _ _ _ _ _ ?g0) ?k1 ?k2 ?k3 ?k4 ?k5 ?kK ?kd ?ku ?_; walk_at "mine use"; (case g0 => walk_at "mine pair")); intro _ _ _ _ _ _ _; (try dsimp only))
  k_with "mine call" => (k_here; (with_reducible show wpAny _ _ (call (Value.ref 208) [Value.ref _, Value.int _ _, Value.int _ _]) _ _ _); k_dflt (refine' use_pairE (log_real_spec _ _ _ _ _ _ _ _ _ _ ?g0 ?g1 ?g2 ?g3) ?k1 ?k2 ?k3 ?k4 ?k5 ?kK ?kd ?ku ?_; walk_at "mine use"; (case g0 => walk_at "mine pair"); (case g1 => walk_at "mine pre"); (case g2 => walk_at "mine pre"); (case g3 => walk_at "mine pre")); intro _ _ _ _ _ _ _; (try dsimp only))
  k_with "mine call" => (k_here; (with_reducible show wpAny _ _ (call (Value.ref 264) [Value.ref _, Value.int _ _, Value.int _ _, Value.int _ _]) _ _ _); k_dflt (refine' use_pair (straight_angle_spec _ _ _ _ _ _ _ _ _ _ _ _ _ _ ?g0 ?g1 ?g2 ?g3 ?g4 ?g5 ?g6) ?k1 ?k2 ?k3 ?k4 ?k5 ?kK ?kd ?ku ?_; walk_at "mine use"; (case g0 => walk_at "mine pair"); (case g1 => walk_at "mine pre"); (case g2 => walk_at "mine pre"); (case g3 => walk_at "mine pre"); (case g4 => walk_at "mine pre"); (case g5 => walk_at "mine pre"); (case g6 => walk_at "mine pre")); intro _ _ _ _ _ _ _ _ _ _; (try dsimp only))
  k_with "mine call" => (k_here; (with_reducible show wpAny _ _ (call (Value.ref 299) [Value.ref _]) _ _ _); k_dflt (refine' use_pairE (size_square_spec _ _ _ _ _ _ _ _ _ _ _ _ ?g0 ?g1 ?g2 ?g3) ?k1 ?k2 ?k3 ?k4 ?k5 ?kK ?kd ?ku ?_; walk_at "mine use"; (case g0 => walk_at "mine mem"); (case g1 => walk_at "mine pair"); (case g2 => walk_at "mine pair"); (case g3 => walk_at "mine pre")); intro _ _ _ _ _ _ _; (try dsimp only))
  k_with "mine call" => (k_here; (with_reducible show wpAny _ _ (call (Value.ref 271) [Value.ref _, Value.ref _, Value.int _ _, Value.int _ _]) _ _ _); k_dflt (refine' use_pair (atan2_real_spec _ _ _ _ _ _ _ _ _ _ _ _ _ _ ?g0 ?g1 ?g2 ?g3 ?g4 ?g5 ?g6 ?g7) ?k1 ?k2 ?k3 ?k4 ?k5 ?kK ?kd ?ku ?_; walk_at "mine use"; (case g0 => walk_at "mine pair"); (case g1 => walk_at "mine pair"); (case g2 => walk_at "mine pre"); (case g3 => walk_at "mine pre"); (case g4 => walk_at "mine pre"); (case g5 => walk_at "mine pre"); (case g6 => walk_at "mine pre"); (case g7 => walk_at "mine pre")); intro _ _ _ _ _ _ _ _ _ _; (try dsimp only))
  trivial
set_option maxRecDepth 100000 in
set_option maxHeartbeats 1000000 in
theorem round_parts_spec (w : World) (mean : ExcName → Option Value) (mg mb : Str → Option Value) (news : List (Addr × Obj)) (Z D C : Addr) (n : Nat) (a b c e d top : Int) (t u : Tok) (hz : (Z, refsObj D C n) ∈ news) (hp : PairIn news D a b) (hq : PairIn news C c e) (hd : 1 ≤ d)
    (h1 : cd a.natAbs ≤ 900) (h2 : cd a.natAbs + b ≤ top) (h3 : cd c.natAbs ≤ 900) (h4 : cd c.natAbs + e ≤ top) :
    Fn w mean mg mb 278 4 [.ref Z, .int d t, .int top u] news (PCpx fun p q r s => RR a b d top p q ∧ RR c e d top r s) := by
  walk_at "mine start"
  k_steps
  all_goals walk_at "mine endc"
  all_goals exact ⟨by assumption, by assumption⟩
set_option maxRecDepth 100000 in
set_option maxHeartbeats 1000000 in
theorem log_both_spec (w : World) (mean : ExcName → Option Value) (mg mb : Str → Option Value) (news : List (Addr × Obj)) (Z D C : Addr) (n : Nat) (k a c d top : Int) (t u : Tok) (hz : (Z, refsObj D C n) ∈ news) (hp : PairIn news D a 0) (hq : PairIn news C c 0) (hu : UnitIs k a c) (hd : 1 ≤ d) (hd2 : d ≤ 300) (ht : 2 ≤ top)
    (hA1 : (cd ((1 * halfTurn (d + 10)).fdiv 2).natAbs : Int) ≤ d + 12) (hA2 : (cd ((2 * halfTurn (d + 10)).fdiv 2).natAbs : Int) ≤ d + 12) :
    Fn w mean mg mb 327 6 [.ref Z, .int d t, .int top u] news (PCpx fun p q r s => (p = 0 * 5 ∧ q = 0 - 1) ∧ ThetaR k d top r s) := by
  have hn := unit_not hu
  walk_at "mine start"
  k_steps
  all_goals walk_at "mine endc"
  all_goals exact ⟨⟨rfl, rfl⟩, by assumption⟩
end
section
local macro_rules | `(tactic| walk_at "mine dummy") => `(tactic| skip)
theorem words_S16 : True := by
  k_with_none
  k_with "mine call" => (k_here; (with_reducible show wpAny _ _ (call (Value.ref 54) [Value.int _ _]) _ _ _); k_dflt (refine' use_int (count_digits_spec _ _ _ _ _ _ _ ) ?k1 ?k2 ?k3 ?k4 ?k5 ?kK ?kd ?ku ?_; walk_at "mine use"); intro _ _ _ _ _; (try dsimp only))
  k_with "mine call" => (k_here; (with_reducible show wpAny _ _ (call (Value.ref 61) [Value.int _ _, Value.int _ _]) _ _ _); k_dflt (refine' use_pair (strip_zeros_spec _ _ _ _ _ _ _ _ _ ) ?k1 ?k2 ?k3 ?k4 ?k5 ?kK ?kd ?ku ?_; walk_at "mine use"); intro _ _ _ _ _ _ _ _ _ _; (try dsimp only))
  k_with "mine call" => (k_here; (with_reducible show wpAny _ _ (call (Value.ref 68) [Value.int _ _, Value.int _ _, Value.int _ _]) _ _ _); k_dflt (refine' use_pair (round_digits_spec _ _ _ _ _ _ _ _ _ _ _ ?g0 ?g1) ?k1 ?k2 ?k3 ?k4 ?k5 ?kK ?kd ?ku ?_; walk_at "mine use"; (case g0 => walk_at "mine pre"); (case g1 => walk_at "mine pre")); intro _ _ _ _ _ _ _ _ _ _; (try dsimp only))
  k_with "mine call" => (k_here; (with_reducible show wpAny _ _ (call (Value.ref 75) [Value.int _ _, Value.int _ _, Value.int _ _, Value.int _ _]) _ _ _); k_dflt (refine' use_pair (round_real_spec _ _ _ _ _ _ _ _ _ _ _ _ _ ?g0 ?g1 ?g2) ?k1 ?k2 ?k3 ?k4 ?k5 ?kK ?kd ?ku ?_; walk_at "mine use"; (case g0 => walk_at "mine pre"); (case g1 => walk_at "mine pre"); (case g2 => walk_at "mine pre")); intro _ _ _ _ _ _ _ _ _ _; (try dsimp only))
  k_with "mine call" => (k_here; (with_reducible show wpAny _ _ (call (Value.ref 117) [Value.ref _]) _ _ _); k_dflt (refine' use_int (lead_of_spec _ _ _ _ _ _ _ _ ?g0) ?k1 ?k2 ?k3 ?k4 ?k5 ?kK ?kd ?ku ?_; walk_at "mine use"; (case g0 => walk_at "mine pair")); intro _ _ _ _ _; (try dsimp only))
  k_with "mine call" => (k_here; (with_reducible show wpAny _ _ (call (Value.ref 89) [Value.ref _, Value.ref _]) _ _ _); k_dflt (refine' use_pairE (exact_mul_spec _ _ _ _ _ _ _ _ _ _ _ ?g0 ?g1 ?g2) ?k1 ?k2 ?k3 ?k4 ?k5 ?kK ?kd ?ku ?_; walk_at "mine use"; (case g0 => walk_at "mine pair"); (case g1 => walk_at "mine pair"); (case g2 => walk_at "mine ok")); intro _ _ _ _ _ _ _; (try dsimp only))
  k_with "mine call" => (k_here; (with_reducible show wpAny _ _ (call (Value.ref 96) [Value.ref _]) _ _ _); k_dflt (refine' use_pairE (real_neg_spec _ _ _ _ _ _ _ _ ?g0) ?k1 ?k2 ?k3 ?k4 ?k5 ?kK ?kd ?ku ?_; walk_at "mine use"; (case g0 => walk_at "mine pair")); intro _ _ _ _ _ _ _; (try dsimp only))
  k_with "mine call" => (k_here; (with_reducible show wpAny _ _ (call (Value.ref 313) [Value.ref _]) _ _ _); k_dflt (refine' use_pairE (halved_spec _ _ _ _ _ _ _ _ ?g0) ?k1 ?k2 ?k3 ?k4 ?k5 ?kK ?kd ?ku ?_; walk_at "mine use"; (case g0 => walk_at "mine pair")); intro _ _ _ _ _ _ _; (try dsimp only))
  k_with "mine call" => (k_here; (with_reducible show wpAny _ _ (call (Value.ref 292) [Value.int _ _]) _ _ _); k_dflt (refine' use_int (wide_top_spec _ _ _ _ _ _ _ ) ?k1 ?k2 ?k3 ?k4 ?k5 ?kK ?kd ?ku ?_; walk_at "mine use"); intro _ _ _ _ _; (try dsimp only))
  k_with "mine call" => (k_here; (with_reducible show wpAny _ _ (call (Value.ref 82) [Value.ref _, Value.ref _]) _ _ _); k_dflt (refine' use_pair (exact_add_spec _ _ _ _ _ _ _ _ _ _ _ ?g0 ?g1 ?g2) ?k1 ?k2 ?k3 ?k4 ?k5 ?kK ?kd ?ku ?_; walk_at "mine use"; (case g0 => walk_at "mine pair"); (case g1 => walk_at "mine pair"); (case g2 => walk_at "mine pre")); intro _ _ _ _ _ _ _ _ _ _; (try dsimp only))
  k_with "mine call" => (k_here; (with_reducible show wpAny _ _ (call (Value.ref 124) [Value.ref _, Value.int _ _]) _ _ _); k_dflt (refine' use_int (places_for_spec _ _ _ _ _ _ _ _ _ _ ?g0) ?k1 ?k2 ?k3 ?k4 ?k5 ?kK ?kd ?ku ?_; walk_at "mine use"; (case g0 => walk_at "mine pair")); intro _ _ _ _ _; (try dsimp only))
  k_with "mine call" => (k_here; (with_reducible show wpAny _ _ (call (Value.ref 229) [Value.ref _, Value.int _ _]) _ _ _); k_dflt (refine' use_bool (is_tiny_spec _ _ _ _ _ _ _ _ _ _ ?g0) ?k1 ?k2 ?k3 ?k4 ?k5 ?kK ?kd ?ku ?_; walk_at "mine use"; (case g0 => walk_at "mine pair")); intro _ _ _ _; (try dsimp only))
  k_with "mine call" => (k_here; (with_reducible show wpAny _ _ (call (Value.ref 131) [Value.ref _, Value.int _ _]) _ _ _); k_dflt (refine' use_int (fixed_spec _ _ _ _ _ _ _ _ _ _ ?g0 ?g1 ?g2 ?g3) ?k1 ?k2 ?k3 ?k4 ?k5 ?kK ?kd ?ku ?_; walk_at "mine use"; (case g0 => walk_at "mine pair"); (case g1 => walk_at "mine pre"); (case g2 => walk_at "mine pre"); (case g3 => walk_at "mine ok")); intro _ _ _ _ _; (try dsimp only))
  k_with "mine call" => (k_here; (with_reducible show wpAny _ _ (call (Value.ref 306) [Value.ref _]) _ _ _); k_dflt (refine' use_bool (is_nought_spec _ _ _ _ _ _ _ _ _ _ _ _ _ ?g0 ?g1 ?g2) ?k1 ?k2 ?k3 ?k4 ?k5 ?kK ?kd ?ku ?_; walk_at "mine use"; (case g0 => walk_at "mine mem"); (case g1 => walk_at "mine pair"); (case g2 => walk_at "mine pair")); intro _ _ _ _; (try dsimp only))
  k_with "mine call" => (k_here; (with_reducible show wpAny _ _ (call (Value.ref 201) [Value.ref _]) _ _ _); k_dflt (refine' use_none (check_positive_spec _ _ _ _ _ _ _ _ ?g0 ?g1) ?k1 ?k2 ?k3 ?k4 ?k5 ?kK ?kd ?ku ?_; walk_at "mine use"; (case g0 => walk_at "mine pair"); (case g1 => walk_at "mine pre")); intro _ _ _ _; (try dsimp only))
  k_with "mine call" => (k_here; (with_reducible show wpAny _ _ (call (Value.ref 145) [Value.int _ _, Value.int _ _, Value.int _ _]) _ _ _); k_dflt (refine' use_int (inverse_series_spec _ _ _ _ _ _ _ _ _ _ _ ?g0 ?g1 ?g2 ?g3) ?k1 ?k2 ?k3 ?k4 ?k5 ?kK ?kd ?ku ?_; walk_at "mine use"; (case g0 => walk_at "mine pre"); (case g1 => walk_at "mine pre"); (case g2 => walk_at "mine pre"); (case g3 => walk_at "mine pre")); intro _ _ _ _ _; (try dsimp only))
  k_with "mine call" => (k_here; (with_reducible show wpAny _ _ (call (Value.ref 152) [Value.int _ _]) _ _ _); k_dflt (refine' use_intR (log_of_ten_spec _ _ _ _ _ _ _ ?g0 ?g1) ?k1 ?k2 ?k3 ?k4 ?k5 ?kK ?kd ?ku ?_; walk_at "mine use"; (case g0 => walk_at "mine pre"); (case g1 => walk_at "mine pre")); intro _ _ _ _ _ _ _; (try dsimp only))
  k_with "mine call" => (k_here; (with_reducible show wpAny _ _ (call (Value.ref 159) [Value.int _ _]) _ _ _); k_dflt (refine' use_int (half_turn_spec _ _ _ _ _ _ _ ?g0 ?g1) ?k1 ?k2 ?k3 ?k4 ?k5 ?kK ?kd ?ku ?_; walk_at "mine use"; (case g0 => walk_at "mine pre"); (case g1 => walk_at "mine pre")); intro _ _ _ _ _; (try dsimp only))
  k_with "mine call" => (k_here; (with_reducible show wpAny _ _ (call (Value.ref 215) [Value.int _ _, Value.int _ _, Value.int _ _]) _ _ _); k_dflt (refine' use_intR (wave_fixed_spec _ _ _ _ _ _ _ _ _ _ _ ?g0 ?g1 ?g2 ?g3) ?k1 ?k2 ?k3 ?k4 ?k5 ?kK ?kd ?ku ?_; walk_at "mine use"; (case g0 => walk_at "mine pre"); (case g1 => walk_at "mine pre"); (case g2 => walk_at "mine pre"); (case g3 => walk_at "mine pre")); intro _ _ _ _ _ _ _; (try dsimp only))
  k_with "mine call" => (k_here; (with_reducible show wpAny _ _ (call (Value.ref 187) [Value.ref _, Value.int _ _, Value.int _ _]) _ _ _); k_dflt (refine' use_pairE (exp_real_spec _ _ _ _ _ _ _ _ _ _ _ ?g0) ?k1 ?k2 ?k3 ?k4 ?k5 ?kK ?kd ?ku ?_; walk_at "mine use"; (case g0 => walk_at "mine pair")); intro _ _ _ _ _ _ _; (try dsimp only))
  k_with "mine call" => (k_here; (with_reducible show wpAny _ _ (call (Value.ref 208) [Value.ref _, Value.int _ _, Value.int _ _]) _ _ _); k_dflt (refine' use_pairE (log_real_spec _ _ _ _ _ _ _ _ _ _ ?g0 ?g1 ?g2 ?g3) ?k1 ?k2 ?k3 ?k4 ?k5 ?kK ?kd ?ku ?_; walk_at "mine use"; (case g0 => walk_at "mine pair"); (case g1 => walk_at "mine pre"); (case g2 => walk_at "mine pre"); (case g3 => walk_at "mine pre")); intro _ _ _ _ _ _ _; (try dsimp only))
  k_with "mine call" => (k_here; (with_reducible show wpAny _ _ (call (Value.ref 264) [Value.ref _, Value.int _ _, Value.int _ _, Value.int _ _]) _ _ _); k_dflt (refine' use_pair (straight_angle_spec _ _ _ _ _ _ _ _ _ _ _ _ _ _ ?g0 ?g1 ?g2 ?g3 ?g4 ?g5 ?g6) ?k1 ?k2 ?k3 ?k4 ?k5 ?kK ?kd ?ku ?_; walk_at "mine use"; (case g0 => walk_at "mine pair"); (case g1 => walk_at "mine pre"); (case g2 => walk_at "mine pre"); (case g3 => walk_at "mine pre"); (case g4 => walk_at "mine pre"); (case g5 => walk_at "mine pre"); (case g6 => walk_at "mine pre")); intro _ _ _ _ _ _ _ _ _ _; (try dsimp only))
  k_with "mine call" => (k_here; (with_reducible show wpAny _ _ (call (Value.ref 299) [Value.ref _]) _ _ _); k_dflt (refine' use_pairE (size_square_spec _ _ _ _ _ _ _ _ _ _ _ _ ?g0 ?g1 ?g2 ?g3) ?k1 ?k2 ?k3 ?k4 ?k5 ?kK ?kd ?ku ?_; walk_at "mine use"; (case g0 => walk_at "mine mem"); (case g1 => walk_at "mine pair"); (case g2 => walk_at "mine pair"); (case g3 => walk_at "mine pre")); intro _ _ _ _ _ _ _; (try dsimp only))
  k_with "mine call" => (k_here; (with_reducible show wpAny _ _ (call (Value.ref 271) [Value.ref _, Value.ref _, Value.int _ _, Value.int _ _]) _ _ _); k_dflt (refine' use_pair (atan2_real_spec _ _ _ _ _ _ _ _ _ _ _ _ _ _ ?g0 ?g1 ?g2 ?g3 ?g4 ?g5 ?g6 ?g7) ?k1 ?k2 ?k3 ?k4 ?k5 ?kK ?kd ?ku ?_; walk_at "mine use"; (case g0 => walk_at "mine pair"); (case g1 => walk_at "mine pair"); (case g2 => walk_at "mine pre"); (case g3 => walk_at "mine pre"); (case g4 => walk_at "mine pre"); (case g5 => walk_at "mine pre"); (case g6 => walk_at "mine pre"); (case g7 => walk_at "mine pre")); intro _ _ _ _ _ _ _ _ _ _; (try dsimp only))
  k_with "mine call" => (k_here; (with_reducible show wpAny _ _ (call (Value.ref 278) [Value.ref _, Value.int _ _, Value.int _ _]) _ _ _); k_dflt (refine' use_cpx (round_parts_spec _ _ _ _ _ _ _ _ _ _ _ _ _ _ _ _ _ ?g0 ?g1 ?g2 ?g3 ?g4 ?g5 ?g6 ?g7) ?k1 ?k2 ?k3 ?k4 ?k5 ?kK ?kd ?ku ?_; walk_at "mine use"; (case g0 => walk_at "mine mem"); (case g1 => walk_at "mine pair"); (case g2 => walk_at "mine pair"); (case g3 => walk_at "mine pre"); (case g4 => walk_at "mine pre"); (case g5 => walk_at "mine pre"); (case g6 => walk_at "mine pre"); (case g7 => walk_at "mine pre")); intro _ _ _ _ _ _ _ _ _ _ _ _ _ _ _ _ _; (try dsimp only))
  k_with "mine call" => (k_here; (with_reducible show wpAny _ _ (call (Value.ref 236) [Value.ref _, Value.int _ _, Value.int _ _]) _ _ _); k_dflt (refine' use_pairE (sin_tiny_spec _ _ _ _ _ _ _ _ _ _ _ ?g0 ?g1 ?g2) ?k1 ?k2 ?k3 ?k4 ?k5 ?kK ?kd ?ku ?_; walk_at "mine use"; (case g0 => walk_at "mine pair"); (case g1 => walk_at "mine pre"); (case g2 => walk_at "mine pre")); intro _ _ _ _ _ _ _; (try dsimp only))
  k_with "mine call" => (k_here; (with_reducible show wpAny _ _ (call (Value.ref 243) [Value.ref _, Value.int _ _, Value.int _ _]) _ _ _); k_dflt (refine' use_pairE (cos_tiny_spec _ _ _ _ _ _ _ _ _ _ _ ?g0) ?k1 ?k2 ?k3 ?k4 ?k5 ?kK ?kd ?ku ?_; walk_at "mine use"; (case g0 => walk_at "mine pair")); intro _ _ _ _ _ _ _; (try dsimp only))
  trivial
theorem ep_end {a2 b2 c1 d1 b1 d2 p q r s : Int} (h1 : (0 * c1 = 0 → p = -(a2 * 0) ∧ q = b2 + d2) ∧ (0 * c1 ≠ 0 → p = 0 * c1 ∧ q = b1 + d1)) (h2 : ((0 : Int) * 0 = 0 → r = a2 * c1 ∧ s = b2 + d1) ∧ ((0 : Int) * 0 ≠ 0 → r = 0 * 0 ∧ s = b1 + d2)) :
    p = 0 ∧ q = b2 + d2 ∧ r = a2 * c1 ∧ s = b2 + d1 :=
  ⟨by rw [(h1.1 (by simp)).1]; simp, (h1.1 (by simp)).2, (h2.1 (by simp)).1, (h2.1 (by simp)).2⟩
theorem rr_cd {x e d top a b : Int} (hd : 1 ≤ d) (h : RR x e d top a b) : (cd a.natAbs : Int) ≤ d + 1 ∧ (a = 0 ∧ b = 0 ∨ (cd a.natAbs : Int) + b ≤ cd x.natAbs + e + 1) := by
  rcases h with ⟨rfl, rfl, _⟩ | h
  · exact ⟨by rw [show ((cd (0 : Int).natAbs : Nat) : Int) = 0 from rfl]; omega, .inl ⟨rfl, rfl⟩⟩
  · have := rnd_lead h
    obtain ⟨_, _, j, rfl, _, h4, _, _⟩ := h
    have h5 : a.natAbs < 10 ^ (d.toNat + 1) := Nat.lt_of_le_of_lt h4 (Nat.pow_lt_pow_right (by decide) (by omega))
    have := cd_le.mpr h5
    exact ⟨by omega, .inr (by omega)⟩
theorem one_zero (x y : Int) : 1 * x = x ∧ 0 + y = y := by constructor <;> omega
theorem sinr_pre1 {P q r g d top x y : Int} (hd : 1 ≤ d) (hd2 : d ≤ 300) (h : SinR P q r g d top x y) : cd (1 * x).natAbs ≤ 900 := by
  obtain ⟨u, h1, h2⟩ := h
  have := (rr_cd hd h2).1
  rw [(one_zero x y).1]
  omega
theorem sinr_pre2 {P q r g d top x y top' : Int} (hd : 1 ≤ d) (p0 : 0 ≤ P) (hr : (r.natAbs : Int) ≤ 10 ^ P.toNat) (ht : 2 ≤ top') (h : SinR P q r g d top x y) : (cd (1 * x).natAbs : Int) + (0 + y) ≤ top' := by
  obtain ⟨u, h1, h2⟩ := h
  have h3 := (rr_cd hd h2).2
  have h4 := waver_cd h1 p0 hr
  rw [(one_zero x y).1, (one_zero x y).2]
  rcases h3 with ⟨rfl, rfl⟩ | h3
  · rw [show ((cd (0 : Int).natAbs : Nat) : Int) = 0 from rfl]; omega
  · omega
def CexpR (P q r d top a b a' b' : Int) : Prop := ∃ x1 y1 x2 y2, SinR P q r 1 (d + 10) (4 * top + 100) x1 y1 ∧ SinR P q r 0 (d + 10) (4 * top + 100) x2 y2 ∧ RR (1 * x1) (0 + y1) d top a b ∧ RR (1 * x2) (0 + y2) d top a' b'

set_option maxRecDepth 100000 in
set_option maxHeartbeats 1000000 in
theorem exact_product_spec (w : World) (mean : ExcName → Option Value) (mg mb : Str → Option Value) (news : List (Addr × Obj)) (Zx D1 D2 Zy E1 E2 : Addr) (n n' : Nat) (a1 b1 a2 b2 c1 d1 c2 d2 : Int) (hz : (Zx, refsObj D1 D2 n) ∈ news) (hp : PairIn news D1 a1 b1) (hq : PairIn news D2 a2 b2) (hz' : (Zy, refsObj E1 E2 n') ∈ news) (hp' : PairIn news E1 c1 d1) (hq' : PairIn news E2 c2 d2) (h0 : a1 = 0) (h0' : c2 = 0) (hm : IntMulOk a2 c1) :
    Fn w mean mg mb 285 2 [.ref Zx, .ref Zy] news (PCpxE 0 (b2 + d2) (a2 * c1) (b2 + d1)) := by
  subst h0 h0'
  walk_at "mine start"
  k_steps
  all_goals walk_at "mine endc"
  all_goals exact ep_end (by assumption) (by assumption)
set_option maxRecDepth 100000 in
set_option maxHeartbeats 1000000 in
theorem complex_exp_tiny_spec (w : World) (mean : ExcName → Option Value) (mg mb : Str → Option Value) (news : List (Addr × Obj)) (Z D C : Addr) (n : Nat) (b e d top z a : Int) (t u : Tok) (hz : (Z, refsObj D C n) ∈ news) (hp : PairIn news D z b) (hq : PairIn news C a e) (hz0 : z = 0) (ha0 : a = 0) (hd : 1 ≤ d) (ht : 2 ≤ top) (he : e ≤ 4 * top + 100) :
    Fn w mean mg mb 320 5 [.ref Z, .int d t, .int top u] news (PCpx fun p q r s => RR (1 * 1) (0 + 0) d top p q ∧ RR (1 * 0) (0 + 0) d top r s) := by
  subst hz0 ha0
  have c11 : cd ((1 : Int) * 1).natAbs = 1 := rfl
  have c10 : cd ((1 : Int) * 0).natAbs = 0 := rfl
  walk_at "mine start"
  k_steps
  all_goals walk_at "mine endc"
  all_goals assumption
end
section
theorem words_S17 : True := by
  k_with_none
  k_with "mine call" => (k_here; (with_reducible show wpAny _ _ (call (Value.ref 54) [Value.int _ _]) _ _ _); k_dflt (refine' use_int (count_digits_spec _ _ _ _ _ _ _ ) ?k1 ?k2 ?k3 ?k4 ?k5 ?kK ?kd ?ku ?_; walk_at "mine use"); intro _ _ _ _ _; (try dsimp only))
  k_with "mine call" => (k_here; (with_reducible show wpAny _ _ (call (Value.ref 61) [Value.int _ _, Value.int _ _]) _ _ _); k_dflt (refine' use_pair (strip_zeros_spec _ _ _ _ _ _ _ _ _ ) ?k1 ?k2 ?k3 ?k4 ?k5 ?kK ?kd ?ku ?_; walk_at "mine use"); intro _ _ _ _ _ _ _ _ _ _; (try dsimp only))
  k_with "mine call" => (k_here; (with_reducible show wpAny _ _ (call (Value.ref 68) [Value.int _ _, Value.int _ _, Value.int _ _]) _ _ _); k_dflt (refine' use_pair (round_digits_spec _ _ _ _ _ _ _ _ _ _ _ ?g0 ?g1) ?k1 ?k2 ?k3 ?k4 ?k5 ?kK ?kd ?ku ?_; walk_at "mine use"; (case g0 => walk_at "mine pre"); (case g1 => walk_at "mine pre")); intro _ _ _ _ _ _ _ _ _ _; (try dsimp only))
  k_with "mine call" => (k_here; (with_reducible show wpAny _ _ (call (Value.ref 75) [Value.int _ _, Value.int _ _, Value.int _ _, Value.int _ _]) _ _ _); k_dflt (refine' use_pair (round_real_spec _ _ _ _ _ _ _ _ _ _ _ _ _ ?g0 ?g1 ?g2) ?k1 ?k2 ?k3 ?k4 ?k5 ?kK ?kd ?ku ?_; walk_at "mine use"; (case g0 => walk_at "mine pre"); (case g1 => walk_at "mine pre"); (case g2 => walk_at "mine pre")); intro _ _ _ _ _ _ _ _ _ _; (try dsimp only))
  k_with "mine call" => (k_here; (with_reducible show wpAny _ _ (call (Value.ref 117) [Value.ref _]) _ _ _); k_dflt (refine' use_int (lead_of_spec _ _ _ _ _ _ _ _ ?g0) ?k1 ?k2 ?k3 ?k4 ?k5 ?kK ?kd ?ku ?_; walk_at "mine use"; (case g0 => walk_at "mine pair")); intro _ _ _ _ _; (try dsimp only))
  k_with "mine call" => (k_here; (with_reducible show wpAny _ _ (call (Value.ref 89) [Value.ref _, Value.ref _]) _ _ _); k_dflt (refine' use_pairE (exact_mul_spec _ _ _ _ _ _ _ _ _ _ _ ?g0 ?g1 ?g2) ?k1 ?k2 ?k3 ?k4 ?k5 ?kK ?kd ?ku ?_; walk_at "mine use"; (case g0 => walk_at "mine pair"); (case g1 => walk_at "mine pair"); (case g2 => walk_at "mine ok")); intro _ _ _ _ _ _ _; (try dsimp only))
  k_with "mine call" => (k_here; (with_reducible show wpAny _ _ (call (Value.ref 96) [Value.ref _]) _ _ _); k_dflt (refine' use_pairE (real_neg_spec _ _ _ _ _ _ _ _ ?g0) ?k1 ?k2 ?k3 ?k4 ?k5 ?kK ?kd ?ku ?_; walk_at "mine use"; (case g0 => walk_at "mine pair")); intro _ _ _ _ _ _ _; (try dsimp only))
  k_with "mine call" => (k_here; (with_reducible show wpAny _ _ (call (Value.ref 313) [Value.ref _]) _ _ _); k_dflt (refine' use_pairE (halved_spec _ _ _ _ _ _ _ _ ?g0) ?k1 ?k2 ?k3 ?k4 ?k5 ?kK ?kd ?ku ?_; walk_at "mine use"; (case g0 => walk_at "mine pair")); intro _ _ _ _ _ _ _; (try dsimp only))
  k_with "mine call" => (k_here; (with_reducible show wpAny _ _ (call (Value.ref 292) [Value.int _ _]) _ _ _); k_dflt (refine' use_int (wide_top_spec _ _ _ _ _ _ _ ) ?k1 ?k2 ?k3 ?k4 ?k5 ?kK ?kd ?ku ?_; walk_at "mine use"); intro _ _ _ _ _; (try dsimp only))
  k_with "mine call" => (k_here; (with_reducible show wpAny _ _ (call (Value.ref 82) [Value.ref _, Value.ref _]) _ _ _); k_dflt (refine' use_pair (exact_add_spec _ _ _ _ _ _ _ _ _ _ _ ?g0 ?g1 ?g2) ?k1 ?k2 ?k3 ?k4 ?k5 ?kK ?kd ?ku ?_; walk_at "mine use"; (case g0 => walk_at "mine pair"); (case g1 => walk_at "mine pair"); (case g2 => walk_at "mine pre")); intro _ _ _ _ _ _ _ _ _ _; (try dsimp only))
  k_with "mine call" => (k_here; (with_reducible show wpAny _ _ (call (Value.ref 124) [Value.ref _, Value.int _ _]) _ _ _); k_dflt (refine' use_int (places_for_spec _ _ _ _ _ _ _ _ _ _ ?g0) ?k1 ?k2 ?k3 ?k4 ?k5 ?kK ?kd ?ku ?_; walk_at "mine use"; (case g0 => walk_at "mine pair")); intro _ _ _ _ _; (try dsimp only))
  k_with "mine call" => (k_here; (with_reducible show wpAny _ _ (call (Value.ref 229) [Value.ref _, Value.int _ _]) _ _ _); k_dflt (refine' use_bool (is_tiny_spec _ _ _ _ _ _ _ _ _ _ ?g0) ?k1 ?k2 ?k3 ?k4 ?k5 ?kK ?kd ?ku ?_; walk_at "mine use"; (case g0 => walk_at "mine pair")); intro _ _ _ _; (try dsimp only))
  k_with "mine call" => (k_here; (with_reducible show wpAny _ _ (call (Value.ref 131) [Value.ref _, Value.int _ _]) _ _ _); k_dflt (refine' use_int (fixed_spec _ _ _ _ _ _ _ _ _ _ ?g0 ?g1 ?g2 ?g3) ?k1 ?k2 ?k3 ?k4 ?k5 ?kK ?kd ?ku ?_; walk_at "mine use"; (case g0 => walk_at "mine pair"); (case g1 => walk_at "mine pre"); (case g2 => walk_at "mine pre"); (case g3 => walk_at "mine ok")); intro _ _ _ _ _; (try dsimp only))
  k_with "mine call" => (k_here; (with_reducible show wpAny _ _ (call (Value.ref 306) [Value.ref _]) _ _ _); k_dflt (refine' use_bool (is_nought_spec _ _ _ _ _ _ _ _ _ _ _ _ _ ?g0 ?g1 ?g2) ?k1 ?k2 ?k3 ?k4 ?k5 ?kK ?kd ?ku ?_; walk_at "mine use"; (case g0 => walk_at "mine mem"); (case g1 => walk_at "mine pair"); (case g2 => walk_at "mine pair")); intro _ _ _ _; (try dsimp only))
  k_with "mine call" => (k_here; (with_reducible show wpAny _ _ (call (Value.ref 201) [Value.ref _]) _ _ _); k_dflt (refine' use_none (check_positive_spec _ _ _ _ _ _ _ _ ?g0 ?g1) ?k1 ?k2 ?k3 ?k4 ?k5 ?kK ?kd ?ku ?_; walk_at "mine use"; (case g0 => walk_at "mine pair"); (case g1 => walk_at "mine pre")); intro _ _ _ _; (try dsimp only))
  k_with "mine call" => (k_here; (with_reducible show wpAny _ _ (call (Value.ref 145) [Value.int _ _, Value.int _ _, Value.int _ _]) _ _ _); k_dflt (refine' use_int (inverse_series_spec _ _ _ _ _ _ _ _ _ _ _ ?g0 ?g1 ?g2 ?g3) ?k1 ?k2 ?k3 ?k4 ?k5 ?kK ?kd ?ku ?_; walk_at "mine use"; (case g0 => walk_at "mine pre"); (case g1 => walk_at "mine pre"); (case g2 => walk_at "mine pre"); (case g3 => walk_at "mine pre")); intro _ _ _ _ _; (try dsimp only))
  k_with "mine call" => (k_here; (with_reducible show wpAny _ _ (call (Value.ref 152) [Value.int _ _]) _ _ _); k_dflt (refine' use_intR (log_of_ten_spec _ _ _ _ _ _ _ ?g0 ?g1) ?k1 ?k2 ?k3 ?k4 ?k5 ?kK ?kd ?ku ?_; walk_at "mine use"; (case g0 => walk_at "mine pre"); (case g1 => walk_at "mine pre")); intro _ _ _ _ _ _ _; (try dsimp only))
  k_with "mine call" => (k_here; (with_reducible show wpAny _ _ (call (Value.ref 159) [Value.int _ _]) _ _ _); k_dflt (refine' use_int (half_turn_spec _ _ _ _ _ _ _ ?g0 ?g1) ?k1 ?k2 ?k3 ?k4 ?k5 ?kK ?kd ?ku ?_; walk_at "mine use"; (case g0 => walk_at "mine pre"); (case g1 => walk_at "mine pre")); intro _ _ _ _ _; (try dsimp only))
  k_with "mine call" => (k_here; (with_reducible show wpAny _ _ (call (Value.ref 215) [Value.int _ _, Value.int _ _, Value.int _ _]) _ _ _); k_dflt (refine' use_intR (wave_fixed_spec _ _ _ _ _ _ _ _ _ _ _ ?g0 ?g1 ?g2 ?g3) ?k1 ?k2 ?k3 ?k4 ?k5 ?kK ?kd ?ku ?_; walk_at "mine use"; (case g0 => walk_at "mine pre"); (case g1 => walk_at "mine pre"); (case g2 => walk_at "mine pre"); (case g3 => walk_at "mine pre")); intro _ _ _ _ _ _ _; (try dsimp only))
  k_with "mine call" => (k_here; (with_reducible show wpAny _ _ (call (Value.ref 187) [Value.ref _, Value.int _ _, Value.int _ _]) _ _ _); k_dflt (refine' use_pairE (exp_real_spec _ _ _ _ _ _ _ _ _ _ _ ?g0) ?k1 ?k2 ?k3 ?k4 ?k5 ?kK ?kd ?ku ?_; walk_at "mine use"; (case g0 => walk_at "mine pair")); intro _ _ _ _ _ _ _; (try dsimp only))
  k_with "mine call" => (k_here; (with_reducible show wpAny _ _ (call (Value.ref 208) [Value.ref _, Value.int _ _, Value.int _ _]) _ _ _); k_dflt (refine' use_pairE (log_real_spec _ _ _ _ _ _ _ _ _ _ ?g0 ?g1 ?g2 ?g3) ?k1 ?k2 ?k3 ?k4 ?k5 ?kK ?kd ?ku ?_; walk_at "mine use"; (case g0 => walk_at "mine pair"); (case g1 => walk_at "mine pre"); (case g2 => walk_at "mine pre"); (case g3 => walk_at "mine pre")); intro _ _ _ _ _ _ _; (try dsimp only))
  k_with "mine call" => (k_here; (with_reducible show wpAny _ _ (call (Value.ref 264) [Value.ref _, Value.int _ _, Value.int _ _, Value.int _ _]) _ _ _); k_dflt (refine' use_pair (straight_angle_spec _ _ _ _ _ _ _ _ _ _ _ _ _ _ ?g0 ?g1 ?g2 ?g3 ?g4 ?g5 ?g6) ?k1 ?k2 ?k3 ?k4 ?k5 ?kK ?kd ?ku ?_; walk_at "mine use"; (case g0 => walk_at "mine pair"); (case g1 => walk_at "mine pre"); (case g2 => walk_at "mine pre"); (case g3 => walk_at "mine pre"); (case g4 => walk_at "mine pre"); (case g5 => walk_at "mine pre"); (case g6 => walk_at "mine pre")); intro _ _ _ _ _ _ _ _ _ _; (try dsimp only))
  k_with "mine call" => (k_here; (with_reducible show wpAny _ _ (call (Value.ref 299) [Value.ref _]) _ _ _); k_dflt (refine' use_pairE (size_square_spec _ _ _ _ _ _ _ _ _ _ _ _ ?g0 ?g1 ?g2 ?g3) ?k1 ?k2 ?k3 ?k4 ?k5 ?kK ?kd ?ku ?_; walk_at "mine use"; (case g0 => walk_at "mine mem"); (case g1 => walk_at "mine pair"); (case g2 => walk_at "mine pair"); (case g3 => walk_at "mine pre")); intro _ _ _ _ _ _ _; (try dsimp only))
  k_with "mine call" => (k_here; (with_reducible show wpAny _ _ (call (Value.ref 271) [Value.ref _, Value.ref _, Value.int _ _, Value.int _ _]) _ _ _); k_dflt (refine' use_pair (atan2_real_spec _ _ _ _ _ _ _ _ _ _ _ _ _ _ ?g0 ?g1 ?g2 ?g3 ?g4 ?g5 ?g6 ?g7) ?k1 ?k2 ?k3 ?k4 ?k5 ?kK ?kd ?ku ?_; walk_at "mine use"; (case g0 => walk_at "mine pair"); (case g1 => walk_at "mine pair"); (case g2 => walk_at "mine pre"); (case g3 => walk_at "mine pre"); (case g4 => walk_at "mine pre"); (case g5 => walk_at "mine pre"); (case g6 => walk_at "mine pre"); (case g7 => walk_at "mine pre")); intro _ _ _ _ _ _ _ _ _ _; (try dsimp only))
  k_with "mine call" => (k_here; (with_reducible show wpAny _ _ (call (Value.ref 278) [Value.ref _, Value.int _ _, Value.int _ _]) _ _ _); k_dflt (refine' use_cpx (round_parts_spec _ _ _ _ _ _ _ _ _ _ _ _ _ _ _ _ _ ?g0 ?g1 ?g2 ?g3 ?g4 ?g5 ?g6 ?g7) ?k1 ?k2 ?k3 ?k4 ?k5 ?kK ?kd ?ku ?_; walk_at "mine use"; (case g0 => walk_at "mine mem"); (case g1 => walk_at "mine pair"); (case g2 => walk_at "mine pair"); (case g3 => walk_at "mine pre"); (case g4 => walk_at "mine pre"); (case g5 => walk_at "mine pre"); (case g6 => walk_at "mine pre"); (case g7 => walk_at "mine pre")); intro _ _ _ _ _ _ _ _ _ _ _ _ _ _ _ _ _; (try dsimp only))
  k_with "mine call" => (k_here; (with_reducible show wpAny _ _ (call (Value.ref 236) [Value.ref _, Value.int _ _, Value.int _ _]) _ _ _); k_dflt (refine' use_pair (sin_spec _ _ _ _ _ _ _ _ _ _ _ _ _ _ _ _ _ ?g0 ?g1 ?g2 ?g3 ?g4) ?k1 ?k2 ?k3 ?k4 ?k5 ?kK ?kd ?ku ?_; walk_at "mine use"; (case g0 => walk_at "mine pair"); (case g1 => walk_at "mine pre"); (case g2 => walk_at "mine pre"); (case g3 => walk_at "mine pre"); (case g4 => walk_at "mine pre")); intro _ _ _ _ _ _ _ _ _ _; (try dsimp only))
  k_with "mine call" => (k_here; (with_reducible show wpAny _ _ (call (Value.ref 243) [Value.ref _, Value.int _ _, Value.int _ _]) _ _ _); k_dflt (refine' use_pair (cos_spec _ _ _ _ _ _ _ _ _ _ _ _ _ _ _ _ _ ?g0 ?g1 ?g2 ?g3 ?g4) ?k1 ?k2 ?k3 ?k4 ?k5 ?kK ?kd ?ku ?_; walk_at "mine use"; (case g0 => walk_at "mine pair"); (case g1 => walk_at "mine pre"); (case g2 => walk_at "mine pre"); (case g3 => walk_at "mine pre"); (case g4 => walk_at "mine pre")); intro _ _ _ _ _ _ _ _ _ _; (try dsimp only))
  trivial

set_option maxRecDepth 100000 in
set_option maxHeartbeats 1000000 in
theorem complex_exp_spec (w : World) (mean : ExcName → Option Value) (mg mb : Str → Option Value) (news : List (Addr × Obj)) (Z D C : Addr) (n : Nat) (b a e d top P m pi q r z : Int) (t u : Tok) (hz : (Z, refsObj D C n) ∈ news) (hp : PairIn news D z b) (hz0 : z = 0) (hq : PairIn news C a e) (hd : 1 ≤ d) (hd2 : d ≤ 200) (ht : 2 ≤ top)
    (hnt : ¬ (a = 0 ∨ (cd a.natAbs : Int) + e < -(d + 10))) (W : WaveOk a e (d + 10) P m pi q r) :
    Fn w mean mg mb 320 6 [.ref Z, .int d t, .int top u] news (PCpx (CexpR P q r d top)) := by
  subst hz0
  have p0 := W.p0
  have hrr := W.hrr
  have hd10 : 1 ≤ d + 10 := by omega
  have hd30 : d + 10 ≤ 300 := by omega
  walk_at "mine start"
  k_with "mine pre" => first | exact sinr_pre1 hd10 hd30 (by assumption) | exact sinr_pre2 hd10 p0 hrr ht (by assumption)
  k_steps
  all_goals walk_at "mine endc"
  all_goals exact ⟨_, _, _, _, by assumption, by assumption, by assumption⟩
end
section
open PyProof.Rows.LCg PyProof.Rows.LCt PySem.Spec in
/-- a comprehension with one test over a made tuple -/
def SrcTup (prog : Program) (w : World) (A : Around) (h₀ : Heap) (L : Addr) (m : Str → Option Value) (env : Env) (ct elt : PySem.Expr) (x : Str) (scope : Scope) (cl : List (Str × Addr)) (Q : Value → Shared → Prop) (xv : Value) (s₁ : Shared) : Prop :=
  ∃ (ax : Addr) (its : List Value) (k : Nat) (news : List (Addr × Obj)), xv = .ref ax ∧ A.handled = none ∧ Fr h₀ L s₁.heap m ∧ News h₀ L s₁.heap news ∧ (ax, ({ cls := .type "tuple", data := .seq its.toArray k } : Obj)) ∈ news ∧ its.length ≤ 8 ∧
    ∀ g, CompRestT prog w A h₀ L m env ct elt x scope cl { s₁ with heap := g } (fun nw => (ax, ({ cls := .type "tuple", data := .seq its.toArray k } : Obj)) ∈ nw) (fun i v => its[i]? = some v) (FinE h₀ L m { s₁ with heap := g } Q) its.length 0 [] news
open PyProof.Rows.LCg PyProof.Rows.LCt PySem.Spec in
theorem comp_tup {prog : Program} {w : World} {A : Around} {E : Value → Shared → Prop} {s : Shared} {h₀ : Heap} {L : Addr} {m : Str → Option Value} {env : Env} {ct elt iter : PySem.Expr} {x : Str} {px : Pos} {scope : Scope} {cl : List (Str × Addr)} {pos : Pos} {Q : Value → Shared → Prop}
    (_F₀ : Fr h₀ L s.heap m) (hclos : closureFor scope env = pure cl) (hcell : ∀ y ∈ scope.names, y.2 ≠ .cell) (hkind : scope.kind = .function)
    (hnames : ∀ y ∈ scope.names, y.2 = .local → scope.names.lookup y.1 = some .local) (hx : scope.names.lookup x = some .local)
    (h : wpAny (model prog w) A (eval iter env) (SrcTup prog w A h₀ L m env ct elt x scope cl Q) E s)
    (hs : ∀ x, foldedSetIterable iter env x = pure x := by intro _; rfl) :
    wpAny (model prog w) A (eval (.ListComp elt [⟨.Name x px, iter, [ct], 0⟩] scope pos) env) Q E s := by
  rw [eval_ListComp]
  refine wpAny_comprehension_free (use := none) rfl hs hclos hkind hnames (wpAny_mono h (fun xv s₁ h₁ => ?_) fun _ _ e => e)
  obtain ⟨ax, its, k, news, rfl, hh, F, N, S, hsz, R⟩ := h₁
  have hl : s₁.heap.IsTuple ax its.toArray := ⟨_, (N _ S).1, rfl, k, rfl⟩
  have hlt : ax < s₁.heap.objs.size := Heap.lt_size (N _ S).1
  refine wpAny_pyIter_tuple hl ?_
  have up : ∀ b o, s₁.heap.get? b = some o → (s₁.heap.push { cls := .type "tuple_iterator", data := .fields #[.ref ax, .int 0 0] }).get? b = some o := fun b o e => Heap.get?_push_of_some _ e
  have sizes : its.toArray.size = its.length := List.size_toArray
  refine block_T (P := fun i v => its[i]? = some v) (St := fun i h => h.IsTupleIter s₁.heap.objs.size ax i ∧ h.IsTuple ax its.toArray) (fp := [s₁.heap.objs.size, ax]) (n := its.length) (by rw [← sizes]; simpa using Walks.tuple hh s₁.heap.objs.size ax (Nat.ne_of_lt hlt) its.toArray) (by rw [sizeLine_eq]; omega) (fun i h st => by obtain ⟨o, e, _⟩ := st.1; exact ⟨o, e⟩)
    (fun i h h' o nw st e e' kp N' S' => ⟨by obtain ⟨o', q, r⟩ := st.1; rw [e] at q; cases q; exact ⟨o, e', r⟩, ⟨_, (N' _ S').1, rfl, k, rfl⟩⟩)
    hcell hkind hx ⟨⟨_, Heap.get?_push_size _ rfl, rfl, rfl⟩, hl.push _⟩ (fun b hb => ?_)
    (F.keeps up) (N.grown up) (Nat.ne_of_lt F.ns.lt) (next_is_new F) (fun p hp => Nat.ne_of_lt (Heap.lt_size (N p hp).1)) S (R _) ?_
  · rw [Heap.size_push]
    rcases List.mem_cons.mp hb with rfl | hb
    · exact Nat.lt_succ_self _
    · rw [List.mem_singleton.mp hb]; exact Nat.lt_succ_of_lt hlt
  · intro D C h tk m' ys news' F' N' o1 hn hC₀ hD₀ hCL hDL hCD offC fin
    refine ⟨m', hn, fun h'' hs'' => fin D h'' tk (F'.change hs'' hCL hC₀) (fun p hp => ?_) o1⟩
    refine ⟨hs''.extBut _ _ ?_ (N' p hp).1, (N' p hp).2⟩
    rcases List.mem_cons.mp hp with rfl | hp
    · exact Ne.symm hCD
    · exact offC p hp
end
section
def waveP (a b d : Int) : Int := d + max d (cd a.natAbs) + 10 + max 0 (cd a.natAbs + b)
def waveN (a b d : Int) : Int := a * 10 ^ (b + waveP a b d).toNat
def wavePi (a b d : Int) : Int := halfTurn (waveP a b d)
def waveQ (a b d : Int) : Int := (4 * waveN a b d + wavePi a b d).fdiv (2 * wavePi a b d)
def waveRr (a b d : Int) : Int := (2 * waveN a b d - waveQ a b d * wavePi a b d).fdiv 2
def uxF (k : Int) : Int := if k = 0 then 1 else if k = 2 then -1 else 0
def uyF (k : Int) : Int := if k = 1 then 1 else if k = 3 then -1 else 0
/-- the situation of one turn of the law -/
structure Sit (k M e d : Int) : Prop where
  hk : 0 ≤ k ∧ k ≤ 3
  hd : d = 3 ∨ d = 7 ∨ d = 15
  he : 0 ≤ e
  hl : (cd M.natAbs : Int) + e ≤ 38
def lowF (q : Int) : Int := if 0 < q then 0 else q
/-- what _law_near asks of a part -/
def NearP (p q due d : Int) : Prop := -900 ≤ q ∧ q ≤ 900 ∧ Sm p ∧ (((p * 10 ^ (q - lowF q).toNat - due * 10 ^ (-lowF q).toNat).natAbs : Int)) * 10 ^ (d - 1).toNat ≤ 10 ^ (-lowF q).toNat
def NearC (k d p q r s : Int) : Prop := NearP p q (uxF k) d ∧ NearP r s (uyF k) d
theorem Sit.d1 {k M e d : Int} (S : Sit k M e d) : 1 ≤ d ∧ d ≤ 15 := by rcases S.hd with h | h | h <;> omega
def AheadIs (M e ah : Int) : Prop := (ah = 0 ∨ ah = (cd M.natAbs : Int) + e) ∧ 0 ≤ ah ∧ (M ≠ 0 → (cd M.natAbs : Int) + e ≤ ah)
theorem AheadIs.le {k M e d ah : Int} (S : Sit k M e d) (h : AheadIs M e ah) : 0 ≤ ah ∧ ah ≤ 38 := by
  have := S.hl
  rcases h with ⟨h | h, h0, _⟩ <;> omega
theorem ahead_of {M e ah : Int} (h1 : ah = 0 ∨ ah = (cd M.natAbs : Int) + e) (h2 : 0 ≤ ah ∧ (cd M.natAbs : Int) + e ≤ ah) : AheadIs M e ah := ⟨h1, h2.1, fun _ => h2.2⟩
theorem mul_zero_of {k M x : Int} (h : k = 0 ∨ M = 0) (hx : k = 0 → x = 0) : x * M = 0 := by
  rcases h with h | h
  · rw [hx h]; simp
  · rw [h]; simp
theorem theta_zero {k D top x y : Int} (h : ThetaR k D top x y) (hk : k = 0) : x = 0 := by
  rcases h with h | h
  · exact h.2.1
  · exact absurd hk h.1
theorem near_sm {p q due d : Int} (h : NearP p q due d) : Sm (if p * 10 ^ (q - lowF q).toNat - due * 10 ^ (-lowF q).toNat < 0 then -(p * 10 ^ (q - lowF q).toNat - due * 10 ^ (-lowF q).toNat) else p * 10 ^ (q - lowF q).toNat - due * 10 ^ (-lowF q).toNat) := by
  obtain ⟨h1, h2, _, h4⟩ := h
  generalize hX : p * 10 ^ (q - lowF q).toNat - due * 10 ^ (-lowF q).toNat = X at *
  rw [abs_if]
  unfold Sm
  rw [Int.natAbs_natCast]
  rw [tenp, tenp] at h4
  have h5 : X.natAbs * 10 ^ (d - 1).toNat ≤ 10 ^ (-lowF q).toNat := by
    rw [← Int.natCast_mul] at h4
    exact Int.ofNat_le.mp h4
  have h6 : X.natAbs ≤ X.natAbs * 10 ^ (d - 1).toNat := Nat.le_mul_of_pos_right _ (Nat.pow_pos (by decide))
  have h7 : (-lowF q).toNat ≤ 900 := by unfold lowF; split <;> omega
  have h8 : 10 ^ (-lowF q).toNat ≤ 10 ^ 900 := Nat.pow_le_pow_right (by decide) h7
  exact Nat.lt_of_le_of_lt (Nat.le_trans h6 (Nat.le_trans h5 h8)) (Nat.pow_lt_pow_right (by decide) (by decide))
theorem near_end {p q due d : Int} (h : NearP p q due d) : decide ((if p * 10 ^ (q - lowF q).toNat - due * 10 ^ (-lowF q).toNat < 0 then -(p * 10 ^ (q - lowF q).toNat - due * 10 ^ (-lowF q).toNat) else p * 10 ^ (q - lowF q).toNat - due * 10 ^ (-lowF q).toNat) * 10 ^ (d - 1).toNat ≤ 10 ^ (-lowF q).toNat) = true := by
  rw [abs_if]
  exact decide_eq_true h.2.2.2
end
section
/-- the half turn against its reference, in units of its own last place -/
def refPi : Int := halfTurn 220
def chkPi (p : Nat) : Bool :=
  let h := halfTurn (p : Int)
  let d := h * 10 ^ (220 - p) - refPi
  decide (-(2 * 10 ^ (220 - p)) ≤ d ∧ d ≤ 2 * 10 ^ (220 - p))
set_option maxRecDepth 100000 in
theorem chk_a : ((List.range 45).all fun i => chkPi (20 + i)) = true := by decide +kernel
set_option maxRecDepth 100000 in
theorem chk_b : ((List.range 45).all fun i => chkPi (65 + i)) = true := by decide +kernel
set_option maxRecDepth 100000 in
theorem chk_c : ((List.range 45).all fun i => chkPi (110 + i)) = true := by decide +kernel
set_option maxRecDepth 100000 in
theorem chk_d : ((List.range 45).all fun i => chkPi (155 + i)) = true := by decide +kernel
theorem chk_all {p : Nat} (h0 : 20 ≤ p) (h1 : p < 200) : chkPi p = true := by
  have go : ∀ {a n : Nat}, ((List.range n).all fun i => chkPi (a + i)) = true → a ≤ p → p < a + n → chkPi p = true := by
    intro a n h h2 h3
    have := List.all_eq_true.mp h (p - a) (List.mem_range.mpr (by omega))
    rwa [show a + (p - a) = p by omega] at this
  by_cases h2 : p < 65
  · exact go chk_a h0 (by omega)
  by_cases h3 : p < 110
  · exact go chk_b (by omega) (by omega)
  by_cases h4 : p < 155
  · exact go chk_c (by omega) (by omega)
  · exact go chk_d (by omega) (by omega)
theorem refPi_lo : 314 * 10 ^ 218 ≤ refPi := by decide +kernel
theorem refPi_hi : refPi ≤ 315 * 10 ^ 218 := by decide +kernel
/-- closeness of the half turn at p to the reference -/
theorem ht_close {p : Int} (h0 : 20 ≤ p) (h1 : p < 200) : -(2 * 10 ^ (220 - p.toNat)) ≤ halfTurn p * 10 ^ (220 - p.toNat) - refPi ∧ halfTurn p * 10 ^ (220 - p.toNat) - refPi ≤ 2 * 10 ^ (220 - p.toNat) := by
  obtain ⟨n, rfl⟩ := Int.eq_ofNat_of_zero_le (show 0 ≤ p by omega)
  have h := chk_all (p := n) (by omega) (by omega)
  unfold chkPi at h
  simpa using of_decide_eq_true h
theorem ht_bounds {p : Int} (h0 : 20 ≤ p) (h1 : p < 200) : 314 * 10 ^ p.toNat - 200 ≤ 100 * halfTurn p ∧ 100 * halfTurn p ≤ 315 * 10 ^ p.toNat + 200 := by
  obtain ⟨a, b⟩ := ht_close h0 h1
  have lo := refPi_lo
  have hi := refPi_hi
  have hs : (0 : Int) < 10 ^ (220 - p.toNat) := Int.pow_pos (by decide)
  have ht : (10 : Int) ^ p.toNat * 10 ^ (220 - p.toNat) = 100 * 10 ^ 218 := by
    rw [← Int.pow_add, show p.toNat + (220 - p.toNat) = 220 by omega]
    decide +kernel
  generalize (10 : Int) ^ (220 - p.toNat) = s at *
  generalize (10 : Int) ^ p.toNat = t at *
  generalize (10 : Int) ^ 218 = g at *
  generalize refPi = R at *
  generalize halfTurn p = H at *
  constructor
  · apply Int.le_of_mul_le_mul_right _ hs
    have e1 : (314 * t - 200) * s = 314 * (t * s) - 200 * s := by grind
    have e2 : 100 * H * s = 100 * (H * s) := by grind
    rw [e1, e2, ht]
    omega
  · apply Int.le_of_mul_le_mul_right _ hs
    have e1 : (315 * t + 200) * s = 315 * (t * s) + 200 * s := by grind
    have e2 : 100 * H * s = 100 * (H * s) := by grind
    rw [e1, e2, ht]
    omega
end
section
theorem ten_big {p : Int} (h0 : 20 ≤ p) : (10 : Int) ^ 20 ≤ 10 ^ p.toNat := by
  rw [tenp, tenp]
  exact Int.ofNat_le.mpr (Nat.pow_le_pow_right (by decide) (by omega))
theorem ht_pos {p : Int} (h0 : 20 ≤ p) (h1 : p < 200) : 3 * 10 ^ p.toNat ≤ halfTurn p ∧ halfTurn p ≤ 4 * 10 ^ p.toNat := by
  obtain ⟨a, b⟩ := ht_bounds h0 h1
  have := ten_big h0
  generalize (10 : Int) ^ p.toNat = t at *
  omega
theorem cd_bound {x : Int} {n : Nat} (h0 : 0 ≤ x) (h : x < 10 ^ n) : cd x.natAbs ≤ n := by
  apply cd_le.mpr
  rw [tenp] at h
  omega
theorem pow_succ10 (n : Nat) : (10 : Int) ^ (n + 1) = 10 * 10 ^ n := by rw [Int.pow_succ, Int.mul_comm]
theorem half_form (h : Int) : (1 * h).fdiv 2 = h / 2 ∧ (2 * h).fdiv 2 = h := by
  constructor
  · rw [Int.one_mul, Int.fdiv_eq_ediv_of_nonneg _ (by omega)]
  · rw [Int.fdiv_eq_ediv_of_nonneg _ (by omega)]; omega
theorem math_A1 {p : Int} (h0 : 20 ≤ p) (h1 : p ≤ 100) : (cd ((1 * halfTurn p).fdiv 2).natAbs : Int) ≤ p + 2 := by
  obtain ⟨a, b⟩ := ht_pos h0 (by omega)
  have ht := ten_big h0
  rw [(half_form _).1]
  have := cd_bound (x := halfTurn p / 2) (n := p.toNat + 1) (by omega) (by rw [pow_succ10]; omega)
  omega
theorem math_A2 {p : Int} (h0 : 20 ≤ p) (h1 : p ≤ 100) : (cd ((2 * halfTurn p).fdiv 2).natAbs : Int) ≤ p + 2 := by
  obtain ⟨a, b⟩ := ht_pos h0 (by omega)
  have ht := ten_big h0
  rw [(half_form _).2]
  have := cd_bound (x := halfTurn p) (n := p.toNat + 1) (by omega) (by rw [pow_succ10]; omega)
  omega
theorem sit_smM {k M e d : Int} (S : Sit k M e d) : Sm M := by
  have h1 := S.hl
  have h2 := S.he
  exact sm_lt (lt_pow_cd M.natAbs) (by omega)
/-- the angle that the unit's logarithm is: kappa half turns of two, about -/
def kap (k : Int) : Int := if k = 0 then 0 else if k = 1 then 1 else if k = 2 then 2 else -1
theorem ang_facts {k D : Int} (hk : 1 ≤ k ∧ k ≤ 3) (h0 : 10 ≤ D) (h1 : D < 190) :
    -1 ≤ 2 * angF k D - kap k * halfTurn (D + 10) ∧ 2 * angF k D - kap k * halfTurn (D + 10) ≤ 1 ∧ cd (angF k D).natAbs = (D + 11).toNat := by
  obtain ⟨a, b⟩ := ht_pos (p := D + 10) (by omega) (by omega)
  have ht := ten_big (p := D + 10) (by omega)
  have key : ∀ x : Int, 10 ^ (D + 10).toNat ≤ x → x < 10 * 10 ^ (D + 10).toNat → cd x.natAbs = (D + 11).toNat := by
    intro x hx1 hx2
    have c1 := cd_bound (x := x) (n := (D + 10).toNat + 1) (by omega) (by rw [pow_succ10]; exact hx2)
    have c2 : (D + 10).toNat < cd x.natAbs := by
      apply lt_cd.mpr
      rw [tenp] at hx1
      omega
    omega
  have hh := half_form (halfTurn (D + 10))
  have : k = 1 ∨ k = 2 ∨ k = 3 := by omega
  rcases this with rfl | rfl | rfl
  · have e1 : angF 1 D = (1 * halfTurn (D + 10)).fdiv 2 := rfl
    have e2 : kap 1 = 1 := rfl
    rw [e1, e2, hh.1]
    exact ⟨by omega, by omega, key _ (by omega) (by omega)⟩
  · have e1 : angF 2 D = (2 * halfTurn (D + 10)).fdiv 2 := rfl
    have e2 : kap 2 = 2 := rfl
    rw [e1, e2, hh.2]
    exact ⟨by omega, by omega, key _ (by omega) (by omega)⟩
  · have e1 : angF 3 D = -(1 * halfTurn (D + 10)).fdiv 2 := rfl
    have e2 : kap 3 = -1 := rfl
    rw [e1, e2, hh.1, Int.natAbs_neg]
    exact ⟨by omega, by omega, key _ (by omega) (by omega)⟩
/-- theta opened: x times ten to the j, over ten to the D + 10, is near the angle -/
theorem theta_open {k D top x y : Int} (hk : 1 ≤ k ∧ k ≤ 3) (h0 : 10 ≤ D) (h1 : D < 190) (ht : 200 ≤ top) (h : ThetaR k D top x y) :
    x ≠ 0 ∧ ∃ j : Nat, y = j - (D + 10) ∧ 2 * ((x * 10 ^ j - angF k D).natAbs : Int) ≤ 10 ^ 11 ∧ (x.natAbs : Int) ≤ 10 ^ D.toNat ∧ D + 11 ≤ cd x.natAbs + j ∧ (cd x.natAbs : Int) + j ≤ D + 12 := by
  obtain ⟨a1, a2, hc⟩ := ang_facts hk h0 h1
  rcases h with h | ⟨_, h⟩
  · omega
  rcases h with ⟨_, _, h⟩ | ⟨_, hx, j, hy, h2, h3, h4, h5⟩
  · rcases h with h | h
    · rw [h] at hc
      simp [cd_zero] at hc
      omega
    · rw [hc] at h
      omega
  refine ⟨hx, j, by omega, ?_, ?_, by (clear h3 h2 a2 a1 ht; omega), by (clear h3 h2 a2 a1 ht; omega)⟩
  · rw [hc, show (D + 11).toNat = 11 + D.toNat by (clear h5 h4 h3 h2 hc a2 a1 ht; omega), Nat.pow_add] at h2
    have := Nat.le_of_mul_le_mul_right h2 (Nat.pow_pos (by decide))
    omega
  · rw [tenp]
    omega
theorem theta_sm {k D top x y : Int} (hD : 1 ≤ D) (hD2 : D ≤ 300) (h : ThetaR k D top x y) : Sm x := by
  rcases h with ⟨_, rfl, _⟩ | ⟨_, h⟩
  · exact sm_int (by decide) (by decide)
  rcases h with ⟨rfl, _⟩ | h
  · exact sm_int (by decide) (by decide)
  · obtain ⟨_, _, j, _, _, h3, _⟩ := h
    exact Nat.lt_of_le_of_lt h3 (Nat.pow_lt_pow_right (by decide) (by omega))
theorem theta_y {k D top x y : Int} (hk : 0 ≤ k ∧ k ≤ 3) (hD : 10 ≤ D) (hD2 : D ≤ 80) (ht : 200 ≤ top) (h : ThetaR k D top x y) : y ≤ 10 := by
  by_cases h0 : k = 0
  · rcases h with ⟨_, _, rfl⟩ | h
    · omega
    · exact absurd h0 h.1
  · obtain ⟨_, j, hy, _, _, _, h5⟩ := theta_open (by omega) hD (by omega) ht h
    omega
end
section
theorem cd_mul {a b : Nat} (ha : 0 < a) (hb : 0 < b) : cd (a * b) ≤ cd a + cd b ∧ cd a + cd b ≤ cd (a * b) + 1 := by
  have h1 := lt_pow_cd a
  have h2 := lt_pow_cd b
  have h3 := pow_cd_le ha
  have h4 := pow_cd_le hb
  have p1 := cd_pos_of ha
  have p2 := cd_pos_of hb
  constructor
  · apply cd_le.mpr
    rw [Nat.pow_add]
    exact Nat.mul_lt_mul_of_lt_of_le h1 (Nat.le_of_lt h2) (Nat.pow_pos (by decide))
  · have : (cd a - 1) + (cd b - 1) < cd (a * b) := by
      apply lt_cd.mpr
      rw [Nat.pow_add]
      exact Nat.mul_le_mul h3 h4
    omega
theorem ahead_eq {k M e d ah : Int} (S : Sit k M e d) (hM : M ≠ 0) (ha : AheadIs M e ah) : ah = (cd M.natAbs : Int) + e := by
  have h1 := cd_pos_of (Int.natAbs_pos.mpr hM)
  have h2 := S.he
  have h3 := ha.2.2 hM
  rcases ha.1 with h | h <;> omega
theorem kap_le {k : Int} (hk : 0 ≤ k ∧ k ≤ 3) : (kap k).natAbs ≤ 2 := by
  have : k = 0 ∨ k = 1 ∨ k = 2 ∨ k = 3 := by omega
  rcases this with rfl | rfl | rfl | rfl <;> decide
/-- what is known of the wave's number -/
structure WaveNum (k M e d ah x y : Int) : Prop where
  X0 : x * M ≠ 0
  lead0 : ah ≤ (cd (x * M).natAbs : Int) + (y + e)
  lead1 : (cd (x * M).natAbs : Int) + (y + e) ≤ ah + 2
  plo : 2 * d + 30 + ah ≤ waveP (x * M) (y + e) (d + 10)
  phi : waveP (x * M) (y + e) (d + 10) < 200
  sh : 0 ≤ y + e + waveP (x * M) (y + e) (d + 10)
  hx : (x.natAbs : Int) ≤ 10 ^ (2 * d + 10 + ah).toNat
  j : ∃ j : Nat, y = j - (2 * d + 10 + ah + 10) ∧ 2 * ((x * 10 ^ j - angF k (2 * d + 10 + ah)).natAbs : Int) ≤ 10 ^ 11
theorem wave_num {k M e d ah top x y : Int} (S : Sit k M e d) (hM : M ≠ 0) (hk : k ≠ 0) (ha : AheadIs M e ah) (ht : 200 ≤ top) (h : ThetaR k (2 * d + 10 + ah) top x y) : WaveNum k M e d ah x y := by
  have hd := S.d1
  have hk3 := S.hk
  have hl := S.hl
  have he := S.he
  have hah := ahead_eq S hM ha
  have hc := cd_pos_of (Int.natAbs_pos.mpr hM)
  obtain ⟨hx, j, hy, h2, h3, h4, h5⟩ := theta_open (D := 2 * d + 10 + ah) (by omega) (by omega) (by omega) ht h
  have hX : x * M ≠ 0 := Int.mul_ne_zero hx hM
  have hm := cd_mul (Int.natAbs_pos.mpr hx) (Int.natAbs_pos.mpr hM)
  rw [← Int.natAbs_mul] at hm
  have hcx : cd x.natAbs ≤ (2 * d + 10 + ah).toNat + 1 := by
    apply cd_le.mpr
    rw [tenp] at h3
    rw [Nat.pow_succ]
    have : 0 < 10 ^ (2 * d + 10 + ah).toNat := Nat.pow_pos (by decide)
    omega
  have l0 : ah ≤ (cd (x * M).natAbs : Int) + (y + e) := by (clear hcx hX h3 h2 hx hc he hl hk3 hd h ht ha hk hM S; omega)
  have l1 : (cd (x * M).natAbs : Int) + (y + e) ≤ ah + 2 := by (clear l0 hcx hX h3 h2 hx hc he hl hk3 hd h ht ha hk hM S; omega)
  refine ⟨hX, l0, l1, ?_, ?_, ?_, h3, j, hy, h2⟩
  · unfold waveP; (clear hcx hm hX h5 h4 h3 h2 hx hk3 hd h ht ha hk hM S; omega)
  · unfold waveP; (clear hX h5 h4 h3 h2 hx hk3 h ht ha hk hM S; omega)
  · unfold waveP; (clear hcx hm hX h5 h4 h3 h2 hx hk3 hd h ht ha hk hM S; omega)
theorem nat_chain {dl s1 s0 g e u v w kp t Q : Nat} (h : dl * s1 ≤ e * u * s0 + kp * e * v + kp * e * w) (hu : u ≤ 10 ^ 11 + 1) (hv : v ≤ 2 * s0) (hw : w ≤ 2 * s1) (hkp : kp ≤ 2) (he : e ≤ g) (h0 : g * s0 * t = 10 ^ 209) (h1 : g * s1 * t ≤ 10 ^ 199) (hs : Q * s1 = 10 ^ 220) (hs1 : 0 < s1) : dl * t ≤ 2 * Q := by
  have a1 : e * u * s0 ≤ g * (10 ^ 11 + 1) * s0 := Nat.mul_le_mul_right _ (Nat.mul_le_mul he hu)
  have a2 : kp * e * v ≤ 2 * g * (2 * s0) := Nat.mul_le_mul (Nat.mul_le_mul hkp he) hv
  have a3 : kp * e * w ≤ 2 * g * (2 * s1) := Nat.mul_le_mul (Nat.mul_le_mul hkp he) hw
  have b : dl * s1 * t ≤ (g * (10 ^ 11 + 1) * s0 + 2 * g * (2 * s0) + 2 * g * (2 * s1)) * t := Nat.mul_le_mul_right _ (by (clear hs1 hs h1 h0 he hkp hw hv hu; omega))
  have c : (g * (10 ^ 11 + 1) * s0 + 2 * g * (2 * s0) + 2 * g * (2 * s1)) * t = (10 ^ 11 + 5) * (g * s0 * t) + 4 * (g * s1 * t) := by grind
  rw [c, h0] at b
  apply Nat.le_of_mul_le_mul_right _ hs1
  have e1 : dl * t * s1 = dl * s1 * t := by grind
  have e2 : 2 * Q * s1 = 2 * (Q * s1) := by grind
  rw [e1, e2, hs]
  have f : (10 ^ 11 + 5) * 10 ^ 209 + 4 * 10 ^ 199 ≤ 2 * 10 ^ 220 := by decide +kernel
  (clear f e2 c a3 a2 a1 hs1 hs h0 he hkp hw hv hu h; omega)
theorem abs_two {z S : Int} {s : Nat} (h1 : -(2 * S) ≤ z) (h2 : z ≤ 2 * S) (e : S = (s : Int)) : z.natAbs ≤ 2 * s := by omega
/-- the wave's number is near kappa E half turns -/
theorem wave_delta {k M e d ah x y : Int} (S : Sit k M e d) (hM : M ≠ 0) (hk : k ≠ 0) (ha : AheadIs M e ah) (W : WaveNum k M e d ah x y) :
    (2 * waveN (x * M) (y + e) (d + 10) - kap k * (M * 10 ^ e.toNat) * wavePi (x * M) (y + e) (d + 10)).natAbs * 10 ^ (2 * d + 9).toNat ≤ 2 * 10 ^ (waveP (x * M) (y + e) (d + 10)).toNat := by
  have hd := S.d1
  have hk3 := S.hk
  have hl := S.hl
  have he := S.he
  have hah := ahead_eq S hM ha
  have hc := cd_pos_of (Int.natAbs_pos.mpr hM)
  obtain ⟨j, hy, h2⟩ := W.j
  have plo := W.plo
  have phi := W.phi
  have sh := W.sh
  generalize hP : waveP (x * M) (y + e) (d + 10) = P at *
  have hpi : wavePi (x * M) (y + e) (d + 10) = halfTurn P := by unfold wavePi; rw [hP]
  have hn : waveN (x * M) (y + e) (d + 10) = x * M * 10 ^ (y + e + P).toNat := by unfold waveN; rw [hP]
  rw [hpi, hn]
  obtain ⟨g1, g2, _⟩ := ang_facts (k := k) (D := 2 * d + 10 + ah) (by omega) (by omega) (by (clear hn hpi sh hP h2 hc hah he hl hk3 hd W ha hk hM S; omega))
  obtain ⟨c1, c2⟩ := ht_close (p := 2 * d + 10 + ah + 10) (by omega) (by omega)
  obtain ⟨c3, c4⟩ := ht_close (p := P) (by omega) (by omega)
  have hnS : x * M * 10 ^ (y + e + P).toNat * 10 ^ (220 - P.toNat) = (x * 10 ^ j) * (M * 10 ^ e.toNat) * 10 ^ (220 - (2 * d + 10 + ah + 10).toNat) := by
    have e1 : (10 : Int) ^ (y + e + P).toNat * 10 ^ (220 - P.toNat) = 10 ^ j * 10 ^ e.toNat * 10 ^ (220 - (2 * d + 10 + ah + 10).toNat) := by
      rw [← Int.pow_add, ← Int.pow_add, ← Int.pow_add]
      congr 1
      (clear c4 c3 c2 c1 g2 g1 hn hpi hP h2 hk3 W ha hk hM S; omega)
    rw [Int.mul_assoc, e1]
    grind
  have hE : (M * 10 ^ e.toNat).natAbs ≤ 10 ^ ah.toNat := by
    rw [Int.natAbs_mul, tenp, Int.natAbs_natCast, hah, show ((cd M.natAbs : Int) + e).toNat = cd M.natAbs + e.toNat by (clear hnS c4 c3 c2 c1 g2 g1 hn hpi sh phi plo hP h2 hk3 hd W ha hk hM S; omega), Nat.pow_add]
    exact Nat.mul_le_mul_right _ (Nat.le_of_lt (lt_pow_cd _))
  have z0 : 10 ^ ah.toNat * 10 ^ (220 - (2 * d + 10 + ah + 10).toNat) * 10 ^ (2 * d + 9).toNat = 10 ^ 209 := by
    rw [← Nat.pow_add, ← Nat.pow_add]
    congr 1
    (clear hE hnS c4 c3 c2 c1 g2 g1 hn hpi sh hP h2 hk3 W ha hk hM S; omega)
  have z1 : 10 ^ ah.toNat * 10 ^ (220 - P.toNat) * 10 ^ (2 * d + 9).toNat ≤ 10 ^ 199 := by
    rw [← Nat.pow_add, ← Nat.pow_add]
    exact Nat.pow_le_pow_right (by decide) (by (clear z0 hE hnS c4 c3 c2 c1 g2 g1 hn hpi sh hP h2 hk3 W ha hk hM S; omega))
  have z2 : 10 ^ P.toNat * 10 ^ (220 - P.toNat) = 10 ^ 220 := by
    rw [← Nat.pow_add]
    congr 1
    (clear z1 z0 hE hnS c4 c3 c2 c1 g2 g1 hn hpi sh plo hP h2 hy hc hah he hl hk3 hd W ha hk hM S; omega)
  have hs1 : 0 < 10 ^ (220 - P.toNat) := Nat.pow_pos (by decide)
  have hkp := kap_le hk3
  refine nat_chain (s1 := 10 ^ (220 - P.toNat)) (s0 := 10 ^ (220 - (2 * d + 10 + ah + 10).toNat)) (g := 10 ^ ah.toNat) (e := (M * 10 ^ e.toNat).natAbs) (u := (2 * (x * 10 ^ j) - kap k * halfTurn (2 * d + 10 + ah + 10)).natAbs)
    (v := (halfTurn (2 * d + 10 + ah + 10) * 10 ^ (220 - (2 * d + 10 + ah + 10).toNat) - refPi).natAbs) (w := (halfTurn P * 10 ^ (220 - P.toNat) - refPi).natAbs) (kp := (kap k).natAbs) ?_ ?_ ?_ ?_ hkp hE z0 z1 z2 hs1
  · have t1 : (2 * (x * M * 10 ^ (y + e + P).toNat) - kap k * (M * 10 ^ e.toNat) * halfTurn P) * 10 ^ (220 - P.toNat) =
        (M * 10 ^ e.toNat) * (2 * (x * 10 ^ j) - kap k * halfTurn (2 * d + 10 + ah + 10)) * 10 ^ (220 - (2 * d + 10 + ah + 10).toNat) + kap k * (M * 10 ^ e.toNat) * (halfTurn (2 * d + 10 + ah + 10) * 10 ^ (220 - (2 * d + 10 + ah + 10).toNat) - refPi)
          - kap k * (M * 10 ^ e.toNat) * (halfTurn P * 10 ^ (220 - P.toNat) - refPi) := by
      generalize (10 : Int) ^ (220 - P.toNat) = s1 at *
      generalize (10 : Int) ^ (220 - (2 * d + 10 + ah + 10).toNat) = s0 at *
      generalize halfTurn P = pi at *
      generalize halfTurn (2 * d + 10 + ah + 10) = H at *
      generalize refPi = R at *
      generalize x * M * 10 ^ (y + e + P).toNat = n at *
      generalize x * 10 ^ j = A at *
      generalize M * 10 ^ e.toNat = F at *
      generalize kap k = kp at *
      grind
    have t2 := congrArg Int.natAbs t1
    rw [Int.natAbs_mul] at t2
    have q1 : ((10 : Int) ^ (220 - P.toNat)).natAbs = 10 ^ (220 - P.toNat) := by rw [tenp, Int.natAbs_natCast]
    have q2 : ((10 : Int) ^ (220 - (2 * d + 10 + ah + 10).toNat)).natAbs = 10 ^ (220 - (2 * d + 10 + ah + 10).toNat) := by rw [tenp, Int.natAbs_natCast]
    rw [q1] at t2
    rw [t2]
    have t3 : ∀ a b c : Int, (a + b - c).natAbs ≤ a.natAbs + b.natAbs + c.natAbs := by intro a b c; (clear q2 q1 t2 t1 hkp hs1 z2 z1 z0 hE hnS c4 c3 c2 c1 g2 g1 hn hpi sh phi plo hP h2 hy hc hah he hl hk3 hd W ha hk hM S; omega)
    refine Nat.le_trans (t3 _ _ _) ?_
    rw [Int.natAbs_mul, Int.natAbs_mul, Int.natAbs_mul (kap k * _), Int.natAbs_mul (kap k * _), Int.natAbs_mul (kap k), q2]
    exact Nat.le_refl _
  · (clear hkp hs1 z2 z1 z0 hE hnS c4 c3 c2 c1 hn hpi sh phi plo hP hk3 W ha hk hM S; omega)
  · exact abs_two c1 c2 (tenp _)
  · exact abs_two c3 c4 (tenp _)
end
section
theorem fdiv_near {a b c δ : Int} (hb : 0 < b) (h : a = 2 * b * c + (2 * δ + b)) (h1 : -b ≤ 2 * δ) (h2 : 2 * δ < b) : a.fdiv (2 * b) = c := by
  rw [Int.fdiv_eq_ediv_of_nonneg _ (by omega), h, Int.add_comm, Int.add_mul_ediv_left _ _ (by omega)]
  rw [Int.ediv_eq_zero_of_lt (by omega) (by omega)]
  omega
/-- the quarters come out exactly, and what is left is tiny -/
structure WaveEnd (k M e d x y : Int) : Prop where
  q : waveQ (x * M) (y + e) (d + 10) = kap k * (M * 10 ^ e.toNat)
  r : (waveRr (x * M) (y + e) (d + 10)).natAbs * 10 ^ (2 * d + 9).toNat ≤ 2 * 10 ^ (waveP (x * M) (y + e) (d + 10)).toNat
theorem nine_le {d : Int} (h : 1 ≤ d) : 10 ^ 9 ≤ 10 ^ (2 * d + 9).toNat := Nat.pow_le_pow_right (by decide) (by omega)
theorem wave_end {k M e d ah x y : Int} (S : Sit k M e d) (hM : M ≠ 0) (hk : k ≠ 0) (ha : AheadIs M e ah) (W : WaveNum k M e d ah x y) : WaveEnd k M e d x y := by
  have hdl := wave_delta S hM hk ha W
  have hd := S.d1
  have plo := W.plo
  have phi := W.phi
  have hah := (ha.le S).1
  obtain ⟨b1, b2⟩ := ht_pos (p := waveP (x * M) (y + e) (d + 10)) (by omega) phi
  have n9 := nine_le hd.1
  have hd2 : (2 * waveN (x * M) (y + e) (d + 10) - kap k * (M * 10 ^ e.toNat) * wavePi (x * M) (y + e) (d + 10)).natAbs * 10 ^ 9 ≤ 2 * 10 ^ (waveP (x * M) (y + e) (d + 10)).toNat := Nat.le_trans (Nat.mul_le_mul_left _ n9) hdl
  have hpi : wavePi (x * M) (y + e) (d + 10) = halfTurn (waveP (x * M) (y + e) (d + 10)) := rfl
  rw [← hpi, tenp] at b1
  have hq : waveQ (x * M) (y + e) (d + 10) = kap k * (M * 10 ^ e.toNat) := by
    unfold waveQ
    generalize wavePi (x * M) (y + e) (d + 10) = pi at *
    generalize waveN (x * M) (y + e) (d + 10) = n at *
    generalize kap k * (M * 10 ^ e.toNat) = c at *
    have htp : 0 < 10 ^ (waveP (x * M) (y + e) (d + 10)).toNat := Nat.pow_pos (by decide)
    generalize (10 : Nat) ^ (waveP (x * M) (y + e) (d + 10)).toNat = t at *
    refine fdiv_near (δ := 2 * n - c * pi) (by omega) (by grind) (by (clear htp hdl hpi n9 b2 hah phi plo hd W ha hk hM S; omega)) (by (clear hdl hpi n9 b2 hah phi plo hd W ha hk hM S; omega))
  refine ⟨hq, ?_⟩
  unfold waveRr
  rw [hq]
  generalize hδ : 2 * waveN (x * M) (y + e) (d + 10) - kap k * (M * 10 ^ e.toNat) * wavePi (x * M) (y + e) (d + 10) = δ at *
  have : (δ.fdiv 2).natAbs ≤ δ.natAbs := by
    rw [Int.fdiv_eq_ediv_of_nonneg _ (by omega)]
    (clear hd2 hdl hδ hq hpi n9 b2 b1 hah phi plo hd W ha hk hM S; omega)
  exact Nat.le_trans (Nat.mul_le_mul_right _ this) hdl
theorem r_small {r : Int} {P d : Int} (hd : 1 ≤ d) (h : r.natAbs * 10 ^ (2 * d + 9).toNat ≤ 2 * 10 ^ P.toNat) : (r.natAbs : Int) ≤ 10 ^ P.toNat := by
  have n9 := nine_le hd
  have h2 : r.natAbs * 10 ^ 9 ≤ 2 * 10 ^ P.toNat := Nat.le_trans (Nat.mul_le_mul_left _ n9) h
  rw [tenp]
  generalize (10 : Nat) ^ P.toNat = t at *
  omega
theorem sm_of_le {x : Int} {n : Nat} (h : x.natAbs ≤ 10 ^ n) (hn : n ≤ 900) : Sm x := Nat.lt_of_le_of_lt h (Nat.pow_lt_pow_right (by decide) (by omega))
theorem math_wave {k M e d ah top x y : Int} (S : Sit k M e d) (hM : M ≠ 0) (hk : k ≠ 0) (ha : AheadIs M e ah) (ht : 200 ≤ top) (h : ThetaR k (2 * d + 10 + ah) top x y) : WaveOk (x * M) (y + e) (d + 10) (waveP (x * M) (y + e) (d + 10)) (waveN (x * M) (y + e) (d + 10)) (wavePi (x * M) (y + e) (d + 10)) (waveQ (x * M) (y + e) (d + 10)) (waveRr (x * M) (y + e) (d + 10)) := by
  have W := wave_num S hM hk ha ht h
  have E := wave_end S hM hk ha W
  have hd := S.d1
  have plo := W.plo
  have phi := W.phi
  have hah := ha.le S
  obtain ⟨b1, b2⟩ := ht_pos (p := waveP (x * M) (y + e) (d + 10)) (by omega) phi
  have hpi : wavePi (x * M) (y + e) (d + 10) = halfTurn (waveP (x * M) (y + e) (d + 10)) := rfl
  rw [← hpi] at b1 b2
  have htp : (0 : Int) < 10 ^ (waveP (x * M) (y + e) (d + 10)).toNat := Int.pow_pos (by decide)
  have l0 := W.lead0
  have l1 := W.lead1
  have sh := W.sh
  have hcd : cd (x * M).natAbs ≤ 200 := by
    have : ((cd (x * M).natAbs : Nat) : Int) ≤ waveP (x * M) (y + e) (d + 10) := by unfold waveP; (clear htp hpi b2 b1 plo E W h ht ha hk hM S; omega)
    omega
  have hye : y + e ≤ 50 := by omega
  have hEs : (kap k * (M * 10 ^ e.toNat)).natAbs ≤ 10 ^ 100 := by
    have h2 := kap_le S.hk
    have h3 : (M * 10 ^ e.toNat).natAbs ≤ 10 ^ 38 := by
      rw [Int.natAbs_mul, tenp, Int.natAbs_natCast]
      have h4 := S.hl
      have h5 := S.he
      have h6 : M.natAbs * 10 ^ e.toNat ≤ 10 ^ cd M.natAbs * 10 ^ e.toNat := Nat.mul_le_mul_right _ (Nat.le_of_lt (lt_pow_cd _))
      rw [← Nat.pow_add] at h6
      exact Nat.le_trans h6 (Nat.pow_le_pow_right (by decide) (by (clear h6 h2 hye hcd sh l1 l0 htp hpi b2 b1 hah phi plo hd E W h ht ha hk hM S; omega)))
    rw [Int.natAbs_mul]
    exact Nat.le_trans (Nat.mul_le_mul h2 h3) (by decide +kernel)
  have hpis : (2 * wavePi (x * M) (y + e) (d + 10)).natAbs ≤ 10 ^ 300 := by
    have h2 : (10 : Nat) ^ (waveP (x * M) (y + e) (d + 10)).toNat ≤ 10 ^ 200 := Nat.pow_le_pow_right (by decide) (by omega)
    have h3 : 8 * 10 ^ 200 ≤ 10 ^ 300 := by decide +kernel
    rw [tenp] at b1 b2
    generalize (10 : Nat) ^ (waveP (x * M) (y + e) (d + 10)).toNat = t at *
    generalize (10 : Nat) ^ 300 = T at *
    generalize (10 : Nat) ^ 200 = U at *
    (clear hEs hye hcd sh l1 l0 htp hah phi plo hd E W h ht ha hk hM S; omega)
  exact {
    hP := rfl
    hn := rfl
    hpi := rfl
    hq := rfl
    hr := rfl
    p0 := by omega
    p1 := by omega
    s0 := sh
    s1 := by omega
    ha := sm_lt (lt_pow_cd _) (by omega)
    pi0 := by omega
    spi := sm_of_le (n := 300) (by (clear hEs hye hcd sh l1 l0 htp hah phi plo hd E W h ht ha hk hM S; omega)) (by decide)
    s2pi := sm_of_le hpis (by decide)
    sq := by rw [E.q]; exact sm_of_le hEs (by decide)
    hrr := r_small hd.1 E.r }
theorem math_not_tiny {k M e d ah top x y : Int} (S : Sit k M e d) (hM : M ≠ 0) (hk : k ≠ 0) (ha : AheadIs M e ah) (ht : 200 ≤ top) (h : ThetaR k (2 * d + 10 + ah) top x y) : ¬ (x * M = 0 ∨ (cd (x * M).natAbs : Int) + (y + e) < -(d + 10)) := by
  have W := wave_num S hM hk ha ht h
  have hd := S.d1
  have hah := (ha.le S).1
  have l0 := W.lead0
  rintro (q | q)
  · exact W.X0 q
  · omega
end
section
theorem near_nil {d : Int} : NearP 0 0 0 d := by
  refine ⟨by omega, by omega, sm_int (by decide) (by decide), ?_⟩
  have e : lowF 0 = 0 := rfl
  rw [e]
  simp
theorem natAbs_mul_pow (x : Int) (j : Nat) : (x * 10 ^ j).natAbs = x.natAbs * 10 ^ j := by rw [Int.natAbs_mul, tenp, Int.natAbs_natCast]
theorem nearP_of {p q c d : Int} {t J : Nat} (hq : q = J - t) (ht : t ≤ 200) (hc : -1 ≤ c ∧ c ≤ 1) (hp0 : p ≠ 0) (h : (p * 10 ^ J - c * 10 ^ t).natAbs * 10 ^ (d - 1).toNat ≤ 10 ^ t) : NearP p q c d := by
  have hT : 0 < 10 ^ (d - 1).toNat := Nat.pow_pos (by decide)
  have htt : 0 < 10 ^ t := Nat.pow_pos (by decide)
  have h1 : (p * 10 ^ J - c * 10 ^ t).natAbs ≤ 10 ^ t := Nat.le_trans (Nat.le_mul_of_pos_right _ hT) h
  have hc2 : (c * 10 ^ t).natAbs ≤ 10 ^ t := by
    rw [natAbs_mul_pow]
    have : c.natAbs ≤ 1 := by omega
    exact Nat.le_trans (Nat.mul_le_mul_right _ this) (by omega)
  have h2 : (p * 10 ^ J).natAbs ≤ 2 * 10 ^ t := by (clear htt hT h hp0 hc ht hq; omega)
  have h3 : p.natAbs * 10 ^ J ≤ 2 * 10 ^ t := by rw [← natAbs_mul_pow]; exact h2
  have hp1 : 1 ≤ p.natAbs := Int.natAbs_pos.mpr hp0
  have hJp : 0 < 10 ^ J := Nat.pow_pos (by decide)
  have hJ : J ≤ t := by
    have h4 : 10 ^ J ≤ 2 * 10 ^ t := Nat.le_trans (Nat.le_mul_of_pos_left _ hp1) h3
    have h5 : 10 ^ J < 10 ^ (t + 1) := by rw [Nat.pow_succ]; omega
    have := (Nat.pow_lt_pow_iff_right (by decide : 1 < 10)).mp h5
    omega
  have hlow : lowF q = q := by unfold lowF; rw [if_neg (by omega)]
  refine ⟨by omega, by omega, sm_of_le (n := 300) ?_ (by decide), ?_⟩
  · have h6 : p.natAbs ≤ 2 * 10 ^ t := Nat.le_trans (Nat.le_mul_of_pos_right _ hJp) h3
    have h7 : 10 ^ t ≤ 10 ^ 200 := Nat.pow_le_pow_right (by decide) ht
    have h8 : 2 * 10 ^ 200 ≤ 10 ^ 300 := by decide +kernel
    exact Nat.le_trans h6 (Nat.le_trans (Nat.mul_le_mul_left _ h7) h8)
  · rw [hlow, show (q - q).toNat = 0 by omega, show (-q).toNat = t - J by (clear hJp hp1 h3 h2 hc2 h1 htt hT h hp0 hc ht; omega)]
    have e1 : (10 : Int) ^ t = 10 ^ (t - J) * 10 ^ J := by rw [← Int.pow_add]; congr 1; (clear hJp hp1 h3 h2 hc2 h1 htt hT h hp0 hc ht; omega)
    have e2 : (10 : Nat) ^ t = 10 ^ (t - J) * 10 ^ J := by rw [← Nat.pow_add]; congr 1; (clear e1 hJp hp1 h3 h2 hc2 h1 htt hT h hp0 hc ht; omega)
    have e3 : p * 10 ^ J - c * 10 ^ t = (p * 10 ^ 0 - c * 10 ^ (t - J)) * 10 ^ J := by rw [e1]; grind
    rw [e3, natAbs_mul_pow, e2] at h
    have h9 : (p * 10 ^ 0 - c * 10 ^ (t - J)).natAbs * 10 ^ (d - 1).toNat ≤ 10 ^ (t - J) := by
      apply Nat.le_of_mul_le_mul_right _ hJp
      rw [Nat.mul_right_comm]
      exact h
    rw [tenp (d - 1).toNat, tenp (t - J)]
    rw [tenp (t - J)] at h9
    exact_mod_cast h9
theorem cd_ten {m : Nat} (h : 0 < m) : 10 ^ cd m ≤ 10 * m := by
  have := pow_cd_le h
  have h2 := cd_pos_of h
  have e : 10 ^ cd m = 10 * 10 ^ (cd m - 1) := by rw [Nat.mul_comm, ← Nat.pow_succ]; congr 1; omega
  rw [e]
  exact Nat.mul_le_mul_left _ this
theorem rnd_twice {m d a : Int} {j : Nat} (hd : 1 ≤ d) (hm : m ≠ 0) (h : 2 * (a * 10 ^ j - m).natAbs * 10 ^ d.toNat ≤ 10 ^ cd m.natAbs) : (a * 10 ^ j).natAbs ≤ 2 * m.natAbs := by
  have h1 := cd_ten (Int.natAbs_pos.mpr hm)
  have h2 : 10 ^ 1 ≤ 10 ^ d.toNat := Nat.pow_le_pow_right (by decide) (by omega)
  have h3 : 2 * (a * 10 ^ j - m).natAbs * 10 ^ 1 ≤ 2 * (a * 10 ^ j - m).natAbs * 10 ^ d.toNat := Nat.mul_le_mul_left _ h2
  generalize a * 10 ^ j = z at *
  omega
/-- two roundings of a value near nought -/
theorem near_c0 {u P d top x1 y1 p q : Int} {ρ : Nat} (hd : 1 ≤ d) (hP : 0 ≤ P) (hP2 : P ≤ 200) (hu : u.natAbs ≤ 2 * ρ) (hρ : ρ * 10 ^ (2 * d + 9).toNat ≤ 2 * 10 ^ P.toNat) (h1 : RR u (-P) (d + 10) top x1 y1) (h2 : RR x1 y1 d 38 p q) : NearP p q 0 d := by
  by_cases hx : x1 = 0
  · rw [hx] at h2
    obtain ⟨rfl, rfl⟩ := rr_nil h2
    exact near_nil
  rcases h2 with ⟨rfl, rfl, _⟩ | ⟨_, hp, j2, rfl, g2, _⟩
  · exact near_nil
  rcases h1 with ⟨h, _⟩ | ⟨hu0, _, j1, rfl, g1, _⟩
  · exact absurd h hx
  have a1 := rnd_twice (by omega) hu0 g1
  have a2 := rnd_twice hd hx g2
  refine nearP_of (t := P.toNat) (J := j1 + j2) (by (clear a2 a1 g1 hu0 g2 hp hx hρ hu hd; omega)) (by (clear a2 a1 g1 hu0 g2 hp hx hρ hu hd; omega)) (by omega) hp ?_
  have e : p * 10 ^ (j1 + j2) - 0 * 10 ^ P.toNat = p * 10 ^ j2 * 10 ^ j1 := by rw [Nat.add_comm, Int.pow_add]; grind
  rw [e, natAbs_mul_pow]
  rw [natAbs_mul_pow] at a1
  have a3 : (p * 10 ^ j2).natAbs * 10 ^ j1 ≤ 8 * ρ := by
    have := Nat.mul_le_mul_right (10 ^ j1) a2
    rw [Nat.mul_assoc] at this
    (clear e a2 g1 hu0 g2 hp hx hρ hP2 hP hd; omega)
  have hT : 10 ^ (2 * d + 9).toNat = 10 ^ (d - 1).toNat * 10 ^ (d + 10).toNat := by rw [← Nat.pow_add]; congr 1; (clear a3 e a2 a1 g1 hu0 g2 hp hx hρ hu hP2 hP; omega)
  have hU : 10 ^ 10 ≤ 10 ^ (d + 10).toNat := Nat.pow_le_pow_right (by decide) (by (clear hT a3 e a2 a1 g1 hu0 g2 hp hx hρ hu hP2 hP; omega))
  rw [hT, ← Nat.mul_assoc] at hρ
  have a4 : ρ * 10 ^ (d - 1).toNat * 10 ^ 10 ≤ 2 * 10 ^ P.toNat := Nat.le_trans (Nat.mul_le_mul_left _ hU) hρ
  have a5 := Nat.mul_le_mul_right (10 ^ (d - 1).toNat) a3
  rw [Nat.mul_assoc 8] at a5
  generalize ρ * 10 ^ (d - 1).toNat = w at *
  generalize (10 : Nat) ^ P.toNat = t at *
  (clear hρ hU hT a3 e a2 a1 g1 hu0 g2 hp hx hu hP2 hP hd; omega)
theorem tri3 (a b u c : Int) : (a - c).natAbs ≤ (a - b).natAbs + (b - u).natAbs + (u - c).natAbs := by omega
theorem fin_chain {z w1 w2 w3 t : Nat} (h : z ≤ w1 + w2 + 2 * w3) (h1 : 2 * w1 * 10 ≤ 10 * t) (h2 : 2 * w2 * 10 ^ 11 ≤ 10 * t) (h3 : w3 * 10 ^ 10 ≤ 2 * t) : z ≤ t := by omega
/-- two roundings of a value near one, above or below nought -/
theorem near_c1 {u P d top x1 y1 p q c : Int} {ρ : Nat} (hd : 1 ≤ d) (hP : 0 ≤ P) (hP2 : P ≤ 200) (ht : 0 < top) (hc : c = 1 ∨ c = -1) (hu : (u - c * 10 ^ P.toNat).natAbs ≤ 2 * ρ) (hρ : ρ * 10 ^ (2 * d + 9).toNat ≤ 2 * 10 ^ P.toNat) (h1 : RR u (-P) (d + 10) top x1 y1) (h2 : RR x1 y1 d 38 p q) : NearP p q c d := by
  have htt : 0 < 10 ^ P.toNat := Nat.pow_pos (by decide)
  have hT : 10 ^ (2 * d + 9).toNat = 10 ^ (d - 1).toNat * 10 ^ (d + 10).toNat := by rw [← Nat.pow_add]; congr 1; (clear htt h2 h1 hρ hu hc ht hP2 hP; omega)
  have hU : 10 ^ 10 ≤ 10 ^ (d + 10).toNat := Nat.pow_le_pow_right (by decide) (by omega)
  have hTp : 0 < 10 ^ (d - 1).toNat := Nat.pow_pos (by decide)
  rw [hT, ← Nat.mul_assoc] at hρ
  have a4 : ρ * 10 ^ (d - 1).toNat * 10 ^ 10 ≤ 2 * 10 ^ P.toNat := Nat.le_trans (Nat.mul_le_mul_left _ hU) hρ
  have hρs : ρ ≤ ρ * 10 ^ (d - 1).toNat := Nat.le_mul_of_pos_right _ hTp
  have hct : (c * 10 ^ P.toNat).natAbs = 10 ^ P.toNat := by
    rw [natAbs_mul_pow]
    rcases hc with rfl | rfl <;> simp
  -- the size of u
  have u1 : 2 * 10 ^ P.toNat ≤ 3 * u.natAbs ∧ u.natAbs ≤ 2 * 10 ^ P.toNat := by
    generalize c * 10 ^ P.toNat = C at *
    generalize (10 : Nat) ^ P.toNat = t at *
    (clear hρ hTp hU hT h2 h1 hc ht hP2 hP hd; omega)
  have hu0 : u ≠ 0 := by rintro rfl; simp at u1; omega
  have cu : cd u.natAbs ≤ P.toNat + 1 := by apply cd_le.mpr; rw [Nat.pow_succ]; (clear hu0 hρs a4 hTp hU hT h2 h1 hρ hu hc ht hP2 hP hd; omega)
  have cl : P.toNat ≤ cd u.natAbs := by
    rcases Nat.eq_zero_or_pos P.toNat with h0 | h0
    · (clear hu0 u1 hct hρs a4 hTp hU hT htt h2 h1 hρ hu hc ht hP2 hP hd; omega)
    · have : P.toNat - 1 < cd u.natAbs := by
        apply lt_cd.mpr
        have e : 10 ^ P.toNat = 10 ^ (P.toNat - 1) * 10 := by rw [← Nat.pow_succ]; congr 1; (clear cu hu0 u1 hct hρs a4 hTp hU hT htt h2 h1 hρ hu hc ht hP2 hP hd; omega)
        (clear h0 cu hu0 hρs a4 hTp hU hT h2 h1 hρ hu hc ht hP2 hP hd; omega)
      (clear cu hu0 u1 hct hρs a4 hTp hU hT htt h2 h1 hρ hu hc ht hP2 hP hd; omega)
  rcases h1 with ⟨_, _, h⟩ | ⟨_, hx, j1, hy, g1, _, g3, _⟩
  · rcases h with h | h
    · exact absurd h hu0
    · (clear hu0 u1 hct hρs a4 hTp hU hT htt h2 hρ hu hc hd; omega)
  -- A
  have hA1 : 2 * (x1 * 10 ^ j1 - u).natAbs * 10 ^ (d + 10).toNat ≤ 10 * 10 ^ P.toNat := by
    refine Nat.le_trans g1 ?_
    have := Nat.pow_le_pow_right (n := 10) (by decide) cu
    rw [Nat.pow_succ] at this
    (clear g3 g1 hy hx cl cu hu0 u1 hρs a4 hTp hU hT htt h2 hρ hu hc ht hP2 hP hd; omega)
  have hT2 : 10 ^ (d + 10).toNat = 10 ^ (d - 1).toNat * 10 ^ 11 := by rw [← Nat.pow_add]; congr 1; (clear hA1 g3 g1 hy hx cl cu hu0 u1 hct hρs a4 hTp hU hT htt h2 hρ hu hc ht hP2 hP; omega)
  rw [hT2, ← Nat.mul_assoc] at hA1
  have hβ : (x1 * 10 ^ j1 - u).natAbs ≤ (x1 * 10 ^ j1 - u).natAbs * 10 ^ (d - 1).toNat := Nat.le_mul_of_pos_right _ hTp
  rw [Nat.mul_assoc 2] at hA1
  have hAs : (x1 * 10 ^ j1).natAbs < 10 ^ (P.toNat + 1) := by
    rw [Nat.pow_succ]
    generalize (x1 * 10 ^ j1 - u).natAbs * 10 ^ (d - 1).toNat = w at *
    generalize x1 * 10 ^ j1 = A at *
    generalize (10 : Nat) ^ P.toNat = t at *
    (clear a4 hρ g1 hT2 g3 hy hx cl cu hu0 hρs hTp hU hT h2 hu hc ht hP2 hP hd; omega)
  have cA : cd x1.natAbs + j1 ≤ P.toNat + 1 := by
    have h := cd_le.mpr hAs
    rw [natAbs_mul_pow, cd_mul_pow (Int.natAbs_pos.mpr hx)] at h
    exact h
  rcases h2 with ⟨_, _, h⟩ | ⟨_, hp, j2, hq, g2, _⟩
  · rcases h with h | h
    · exact absurd h hx
    · (clear cA hAs hβ hT2 hA1 g1 hu0 u1 hct hρs a4 hTp hU hT htt hρ hu hc ht hd; omega)
  refine nearP_of (t := P.toNat) (J := j1 + j2) (by (clear g2 cA hAs hβ hT2 hA1 g3 g1 cl cu hu0 u1 hct hρs a4 hTp hU hT htt hρ hu hc ht hd; omega)) (by (clear g2 cA hAs hβ hT2 hA1 g3 g1 cl cu hu0 u1 hct hρs a4 hTp hU hT htt hρ hu hc ht hd; omega)) (by (clear g2 hq cA hT2 g3 g1 hy cl cu hTp hU hT hρ ht hP2 hP hd; omega)) hp ?_
  have e : p * 10 ^ (j1 + j2) = p * 10 ^ j2 * 10 ^ j1 := by rw [Nat.add_comm, Int.pow_add]; grind
  have hα : 2 * (p * 10 ^ (j1 + j2) - x1 * 10 ^ j1).natAbs * 10 ^ d.toNat ≤ 10 * 10 ^ P.toNat := by
    have e2 : p * 10 ^ (j1 + j2) - x1 * 10 ^ j1 = (p * 10 ^ j2 - x1) * 10 ^ j1 := by rw [e]; grind
    rw [e2, natAbs_mul_pow]
    have h3 := Nat.mul_le_mul_right (10 ^ j1) g2
    rw [← Nat.pow_add] at h3
    have h4 : 10 ^ (cd x1.natAbs + j1) ≤ 10 ^ (P.toNat + 1) := Nat.pow_le_pow_right (by decide) cA
    rw [Nat.pow_succ] at h4
    have e3 : 2 * ((p * 10 ^ j2 - x1).natAbs * 10 ^ j1) * 10 ^ d.toNat = 2 * (p * 10 ^ j2 - x1).natAbs * 10 ^ d.toNat * 10 ^ j1 := by grind
    rw [e3]
    (clear e2 e g2 hq hp cA hAs hβ hT2 hA1 g3 g1 hy hx cl cu hu0 u1 hρs a4 hTp hU hT htt hρ hu hc ht hP2 hP hd; omega)
  have hT3 : 10 ^ d.toNat = 10 ^ (d - 1).toNat * 10 := by rw [← Nat.pow_succ]; congr 1; (clear hα e g2 hq hp cA hAs hβ hT2 hA1 g3 g1 hy hx cl cu hu0 u1 hct hρs a4 hTp hU hT htt hρ hu hc ht hP2 hP; omega)
  rw [hT3, ← Nat.mul_assoc, Nat.mul_assoc 2] at hα
  have tri := Nat.le_trans (tri3 (p * 10 ^ (j1 + j2)) (x1 * 10 ^ j1) u (c * 10 ^ P.toNat)) (Nat.add_le_add_left hu _)
  have fin := Nat.mul_le_mul_right (10 ^ (d - 1).toNat) tri
  rw [Nat.add_mul, Nat.add_mul, Nat.mul_assoc 2] at fin
  exact fin_chain fin hα hA1 a4
end
section
/-- the value that a turn of the wave stands for -/
def turnC (t : Int) : Int := if t = 1 then 1 else if t = 3 then -1 else 0
theorem wave_val {P q r g u : Int} (hP : 0 ≤ P) (h : WaveR P q r g u P) : (u - turnC ((q + g).fmod 4) * 10 ^ P.toNat).natAbs ≤ 2 * r.natAbs := by
  obtain ⟨_, V, hV, hu⟩ := h
  have h0 := Int.fmod_nonneg_of_pos (q + g) (by decide : (0 : Int) < 4)
  have h1 := Int.fmod_lt_of_pos (q + g) (by decide : (0 : Int) < 4)
  generalize (q + g).fmod 4 = t at *
  generalize (10 : Int) ^ P.toNat = o at *
  have : t = 0 ∨ t = 1 ∨ t = 2 ∨ t = 3 := by omega
  rcases this with rfl | rfl | rfl | rfl
  · have e1 : (1 - (0 : Int).fmod 2 = 1) := by decide
    have e2 : turnC 0 = 0 := by decide
    rw [if_pos e1] at hV
    rw [if_neg (by decide)] at hu
    rw [e2, hu]
    (clear e2 e1 h1 h0 hu hP; omega)
  · have e1 : ¬ (1 - (1 : Int).fmod 2 = 1) := by decide
    have e2 : turnC 1 = 1 := by decide
    rw [if_neg e1] at hV
    rw [if_neg (by decide)] at hu
    rw [e2, hu]
    (clear e2 h1 h0 hu hP; omega)
  · have e1 : (1 - (2 : Int).fmod 2 = 1) := by decide
    have e2 : turnC 2 = 0 := by decide
    rw [if_pos e1] at hV
    rw [if_pos (by decide)] at hu
    rw [e2, hu]
    (clear e2 e1 h1 h0 hu hP; omega)
  · have e1 : ¬ (1 - (3 : Int).fmod 2 = 1) := by decide
    have e2 : turnC 3 = -1 := by decide
    rw [if_neg e1] at hV
    rw [if_pos (by decide)] at hu
    rw [e2, hu]
    (clear e2 h1 h0 hu hP; omega)
theorem turn_rest {k E : Int} (hk : 0 ≤ k ∧ k ≤ 3) : turnC ((kap k * E + 0).fmod 4) = uyF ((k * E).fmod 4) ∧ turnC ((kap k * E + 1).fmod 4) = uxF ((k * E).fmod 4) := by
  have h : (kap k * E).fmod 4 = (k * E).fmod 4 := by
    rw [Int.fmod_eq_emod_of_nonneg _ (by decide), Int.fmod_eq_emod_of_nonneg _ (by decide)]
    have : k = 0 ∨ k = 1 ∨ k = 2 ∨ k = 3 := by omega
    rcases this with rfl | rfl | rfl | rfl
    · rw [show kap 0 = 0 from rfl]
    · rw [show kap 1 = 1 from rfl]
    · rw [show kap 2 = 2 from rfl]
    · rw [show kap 3 = -1 from rfl]; omega
  rw [Int.fmod_eq_emod_of_nonneg _ (by decide), Int.fmod_eq_emod_of_nonneg _ (by decide)] at h ⊢
  rw [Int.fmod_eq_emod_of_nonneg _ (by decide)]
  rw [← h]
  generalize kap k * E = z
  have : z % 4 = 0 ∨ z % 4 = 1 ∨ z % 4 = 2 ∨ z % 4 = 3 := by (clear h hk; omega)
  rcases this with q | q | q | q
  · rw [show (z + 0) % 4 = 0 by omega, show (z + 1) % 4 = 1 by omega, q]; decide
  · rw [show (z + 0) % 4 = 1 by omega, show (z + 1) % 4 = 2 by omega, q]; decide
  · rw [show (z + 0) % 4 = 2 by omega, show (z + 1) % 4 = 3 by omega, q]; decide
  · rw [show (z + 0) % 4 = 3 by omega, show (z + 1) % 4 = 0 by omega, q]; decide
theorem turnC_ways (t : Int) : turnC t = 0 ∨ turnC t = 1 ∨ turnC t = -1 := by unfold turnC; split <;> (try split) <;> simp
theorem sin_near {P q r g d top x1 y1 p s : Int} (hd : 1 ≤ d) (hP : 0 ≤ P) (hP2 : P ≤ 200) (ht : 0 < top) (hr : r.natAbs * 10 ^ (2 * d + 9).toNat ≤ 2 * 10 ^ P.toNat) (h1 : SinR P q r g (d + 10) top x1 y1) (h2 : RR (1 * x1) (0 + y1) d 38 p s) : NearP p s (turnC ((q + g).fmod 4)) d := by
  rw [(one_zero x1 y1).1, (one_zero x1 y1).2] at h2
  obtain ⟨u, hw, hrr⟩ := h1
  have hv := wave_val hP hw
  rcases turnC_ways ((q + g).fmod 4) with e | e
  · rw [e] at hv ⊢
    exact near_c0 hd hP hP2 (by simpa using hv) hr hrr h2
  · exact near_c1 hd hP hP2 ht e hv hr hrr h2
theorem math_near {k M e d ah top x y p q r s : Int} (S : Sit k M e d) (hM : M ≠ 0) (hk : k ≠ 0) (ha : AheadIs M e ah) (ht : 200 ≤ top) (h : ThetaR k (2 * d + 10 + ah) top x y)
    (hc : CexpR (waveP (x * M) (y + e) (d + 10)) (waveQ (x * M) (y + e) (d + 10)) (waveRr (x * M) (y + e) (d + 10)) d 38 p q r s) : NearC ((k * (M * 10 ^ e.toNat)).fmod 4) d p q r s := by
  have W := wave_num S hM hk ha ht h
  have E := wave_end S hM hk ha W
  have hd := S.d1
  have plo := W.plo
  have phi := W.phi
  have hah := (ha.le S).1
  obtain ⟨t1, t2⟩ := turn_rest (k := k) (E := M * 10 ^ e.toNat) S.hk
  obtain ⟨x1, y1, x2, y2, a1, a2, b1, b2⟩ := hc
  rw [E.q] at a1 a2
  constructor
  · rw [← t2]
    exact sin_near hd.1 (by omega) (by omega) (by decide) E.r a1 b1
  · rw [← t1]
    exact sin_near hd.1 (by omega) (by omega) (by decide) E.r a2 b2
theorem near_one {d p q : Int} (hd : 1 ≤ d) (h : RR 1 0 d 38 p q) : NearP p q 1 d := by
  have c1 : cd (1 : Int).natAbs = 1 := rfl
  rcases h with ⟨_, _, h⟩ | ⟨_, hp, j, hq, g1, _⟩
  · rcases h with h | h
    · exact absurd h (by decide)
    · rw [c1] at h; omega
  refine nearP_of (t := 0) (J := j) (by omega) (by omega) (by omega) hp ?_
  rw [c1] at g1
  have h2 : 10 ^ 1 ≤ 10 ^ d.toNat := Nat.pow_le_pow_right (by decide) (by omega)
  have h3 : 2 * (p * 10 ^ j - 1).natAbs * 10 ^ 1 ≤ 2 * (p * 10 ^ j - 1).natAbs * 10 ^ d.toNat := Nat.mul_le_mul_left _ h2
  have h4 : (p * 10 ^ j - 1).natAbs = 0 := by omega
  have h5 : p * 10 ^ j - 1 * 10 ^ 0 = p * 10 ^ j - 1 := by simp
  rw [h5, h4]
  simp
theorem math_near0 {k M e d p q r s : Int} (S : Sit k M e d) (h0 : k = 0 ∨ M = 0) (h : RR (1 * 1) (0 + 0) d 38 p q ∧ RR (1 * 0) (0 + 0) d 38 r s) : NearC ((k * (M * 10 ^ e.toNat)).fmod 4) d p q r s := by
  have hd := S.d1.1
  have e0 : (k * (M * 10 ^ e.toNat)).fmod 4 = 0 := by
    have : k * (M * 10 ^ e.toNat) = 0 := by rcases h0 with h | h <;> rw [h] <;> simp
    rw [this]
    decide
  rw [e0]
  constructor
  · exact near_one hd h.1
  · obtain ⟨rfl, rfl⟩ := rr_nil h.2
    exact near_nil
end
section
theorem theta_sm' {A : Prop} {k D top x y : Int} (h : A ∧ ThetaR k D top x y) (hD : 1 ≤ D) (hD2 : D ≤ 300) : Sm x := theta_sm hD hD2 h.2
theorem math_wave' {A : Prop} {k M e d ah x y : Int} (h : A ∧ ThetaR k (2 * d + 10 + ah) (4 * 38 + 100) x y) (S : Sit k M e d) (hM : M ≠ 0) (hk : k ≠ 0) (h1 : ah = 0 ∨ ah = (cd M.natAbs : Int) + e) (h2 : 0 ≤ ah ∧ (cd M.natAbs : Int) + e ≤ ah) : WaveOk (x * M) (y + e) (d + 10) (waveP (x * M) (y + e) (d + 10)) (waveN (x * M) (y + e) (d + 10)) (wavePi (x * M) (y + e) (d + 10)) (waveQ (x * M) (y + e) (d + 10)) (waveRr (x * M) (y + e) (d + 10)) := math_wave S hM hk (ahead_of h1 h2) (by decide) h.2
theorem math_not_tiny' {A : Prop} {k M e d ah x y : Int} (h : A ∧ ThetaR k (2 * d + 10 + ah) (4 * 38 + 100) x y) (S : Sit k M e d) (hM : M ≠ 0) (hk : k ≠ 0) (h1 : ah = 0 ∨ ah = (cd M.natAbs : Int) + e) (h2 : 0 ≤ ah ∧ (cd M.natAbs : Int) + e ≤ ah) : ¬ (x * M = 0 ∨ (cd (x * M).natAbs : Int) + (y + e) < -(d + 10)) := math_not_tiny S hM hk (ahead_of h1 h2) (by decide) h.2
theorem math_near' {A : Prop} {k M e d ah x y p q r s : Int} (h : A ∧ ThetaR k (2 * d + 10 + ah) (4 * 38 + 100) x y) (hc : CexpR (waveP (x * M) (y + e) (d + 10)) (waveQ (x * M) (y + e) (d + 10)) (waveRr (x * M) (y + e) (d + 10)) d 38 p q r s) (S : Sit k M e d) (hM : M ≠ 0) (hk : k ≠ 0) (h1 : ah = 0 ∨ ah = (cd M.natAbs : Int) + e) (h2 : 0 ≤ ah ∧ (cd M.natAbs : Int) + e ≤ ah) : NearC ((k * (M * 10 ^ e.toNat)).fmod 4) d p q r s := math_near S hM hk (ahead_of h1 h2) (by decide) h.2 hc
theorem theta_zero' {A : Prop} {k D top x y M : Int} (h : A ∧ ThetaR k D top x y) (h0 : k = 0 ∨ M = 0) : x * M = 0 := mul_zero_of h0 (theta_zero h.2)
theorem theta_e' {A : Prop} {k D x y M e d : Int} (h : A ∧ ThetaR k D (4 * 38 + 100) x y) (hD : 10 ≤ D) (hD2 : D ≤ 80) (S : Sit k M e d) (hc : (cd M.natAbs : Int) + e ≤ 38) : y + e ≤ 4 * 38 + 100 := by
  have := theta_y S.hk hD hD2 (by decide) h.2
  omega
end

theorem bne_yes {a b : Int} (h : a ≠ b) : (a != b) = true := by simpa using h
theorem bne_no {a b : Int} (h : a = b) : ¬ (a != b) = true := by simpa using h
local macro_rules | `(tactic| walk_at "ite") => `(tactic| (k_here; first | with_reducible refine ite_pos (bne_yes (by assumption)) ?_ | with_reducible refine ite_neg (bne_no (by assumption)) ?_))
local macro_rules | `(tactic| walk_at "eval ListComp") => `(tactic| (k_here; k_dflt (refine comp_tup (by k_asm) (by with_unfolding_all rfl) (by decide) (by rfl) (by decide) (by rfl) ?_)))
local macro_rules | `(tactic| walk_at "SrcTup") => `(tactic| (k_here; k_dflt (refine' ⟨_, [Value.ref _, Value.ref _], _, _, rfl, rfl, ?F, ?N, ?mem, ?sz, ?_⟩; (case F => k_asm); (case N => k_asm); (case mem => walk_at "mine mem"); (case sz => exact Nat.le_of_ble_eq_true rfl)); intro _; (dsimp only [List.length_cons, List.length_nil])))
local macro_rules | `(tactic| walk_at "CompRestT") => `(tactic| (with_unfolding_all first
  | (refine PyProof.Rows.LCt.CompRestT.succ ?_; intro v' I' oI' C' oC' D' m' h' tk' E' hv' hC' hx' F' N' off' ne'; (have hv9' := Option.some.inj hv'); (subst hv9'); (clear hv'); (try dsimp only))
  | refine PyProof.Rows.LCt.CompRestT.zero ?_))
local macro_rules | `(tactic| walk_at "CompEnd") => `(tactic| (k_here; k_dflt (refine' PyProof.Rows.LCg.CompEnd.intro ?F ?N _ ?sub ?off ?S ?_; (case F => k_asm); (case N => k_asm); (case off => assumption); (case sub => walk_at "mine sub"); (case S => walk_at "mine mem"))))
section
theorem words_S18 : True := by
  k_with_none
  k_with "mine call" => (k_here; (with_reducible show wpAny _ _ (call (Value.ref 54) [Value.int _ _]) _ _ _); k_dflt (refine' use_int (count_digits_spec _ _ _ _ _ _ _ ) ?k1 ?k2 ?k3 ?k4 ?k5 ?kK ?kd ?ku ?_; walk_at "mine use"); intro _ _ _ _ _; (try dsimp only))
  k_with "mine call" => (k_here; (with_reducible show wpAny _ _ (call (Value.ref 61) [Value.int _ _, Value.int _ _]) _ _ _); k_dflt (refine' use_pair (strip_zeros_spec _ _ _ _ _ _ _ _ _ ) ?k1 ?k2 ?k3 ?k4 ?k5 ?kK ?kd ?ku ?_; walk_at "mine use"); intro _ _ _ _ _ _ _ _ _ _; (try dsimp only))
  k_with "mine call" => (k_here; (with_reducible show wpAny _ _ (call (Value.ref 68) [Value.int _ _, Value.int _ _, Value.int _ _]) _ _ _); k_dflt (refine' use_pair (round_digits_spec _ _ _ _ _ _ _ _ _ _ _ ?g0 ?g1) ?k1 ?k2 ?k3 ?k4 ?k5 ?kK ?kd ?ku ?_; walk_at "mine use"; (case g0 => walk_at "mine pre"); (case g1 => walk_at "mine pre")); intro _ _ _ _ _ _ _ _ _ _; (try dsimp only))
  k_with "mine call" => (k_here; (with_reducible show wpAny _ _ (call (Value.ref 75) [Value.int _ _, Value.int _ _, Value.int _ _, Value.int _ _]) _ _ _); k_dflt (refine' use_pair (round_real_spec _ _ _ _ _ _ _ _ _ _ _ _ _ ?g0 ?g1 ?g2) ?k1 ?k2 ?k3 ?k4 ?k5 ?kK ?kd ?ku ?_; walk_at "mine use"; (case g0 => walk_at "mine pre"); (case g1 => walk_at "mine pre"); (case g2 => walk_at "mine pre")); intro _ _ _ _ _ _ _ _ _ _; (try dsimp only))
  k_with "mine call" => (k_here; (with_reducible show wpAny _ _ (call (Value.ref 117) [Value.ref _]) _ _ _); k_dflt (refine' use_int (lead_of_spec _ _ _ _ _ _ _ _ ?g0) ?k1 ?k2 ?k3 ?k4 ?k5 ?kK ?kd ?ku ?_; walk_at "mine use"; (case g0 => walk_at "mine pair")); intro _ _ _ _ _; (try dsimp only))
  k_with "mine call" => (k_here; (with_reducible show wpAny _ _ (call (Value.ref 89) [Value.ref _, Value.ref _]) _ _ _); k_dflt (refine' use_pairE (exact_mul_spec _ _ _ _ _ _ _ _ _ _ _ ?g0 ?g1 ?g2) ?k1 ?k2 ?k3 ?k4 ?k5 ?kK ?kd ?ku ?_; walk_at "mine use"; (case g0 => walk_at "mine pair"); (case g1 => walk_at "mine pair"); (case g2 => walk_at "mine ok")); intro _ _ _ _ _ _ _; (try dsimp only))
  k_with "mine call" => (k_here; (with_reducible show wpAny _ _ (call (Value.ref 96) [Value.ref _]) _ _ _); k_dflt (refine' use_pairE (real_neg_spec _ _ _ _ _ _ _ _ ?g0) ?k1 ?k2 ?k3 ?k4 ?k5 ?kK ?kd ?ku ?_; walk_at "mine use"; (case g0 => walk_at "mine pair")); intro _ _ _ _ _ _ _; (try dsimp only))
  k_with "mine call" => (k_here; (with_reducible show wpAny _ _ (call (Value.ref 313) [Value.ref _]) _ _ _); k_dflt (refine' use_pairE (halved_spec _ _ _ _ _ _ _ _ ?g0) ?k1 ?k2 ?k3 ?k4 ?k5 ?kK ?kd ?ku ?_; walk_at "mine use"; (case g0 => walk_at "mine pair")); intro _ _ _ _ _ _ _; (try dsimp only))
  k_with "mine call" => (k_here; (with_reducible show wpAny _ _ (call (Value.ref 292) [Value.int _ _]) _ _ _); k_dflt (refine' use_int (wide_top_spec _ _ _ _ _ _ _ ) ?k1 ?k2 ?k3 ?k4 ?k5 ?kK ?kd ?ku ?_; walk_at "mine use"); intro _ _ _ _ _; (try dsimp only))
  k_with "mine call" => (k_here; (with_reducible show wpAny _ _ (call (Value.ref 82) [Value.ref _, Value.ref _]) _ _ _); k_dflt (refine' use_pair (exact_add_spec _ _ _ _ _ _ _ _ _ _ _ ?g0 ?g1 ?g2) ?k1 ?k2 ?k3 ?k4 ?k5 ?kK ?kd ?ku ?_; walk_at "mine use"; (case g0 => walk_at "mine pair"); (case g1 => walk_at "mine pair"); (case g2 => walk_at "mine pre")); intro _ _ _ _ _ _ _ _ _ _; (try dsimp only))
  k_with "mine call" => (k_here; (with_reducible show wpAny _ _ (call (Value.ref 124) [Value.ref _, Value.int _ _]) _ _ _); k_dflt (refine' use_int (places_for_spec _ _ _ _ _ _ _ _ _ _ ?g0) ?k1 ?k2 ?k3 ?k4 ?k5 ?kK ?kd ?ku ?_; walk_at "mine use"; (case g0 => walk_at "mine pair")); intro _ _ _ _ _; (try dsimp only))
  k_with "mine call" => (k_here; (with_reducible show wpAny _ _ (call (Value.ref 229) [Value.ref _, Value.int _ _]) _ _ _); k_dflt (refine' use_bool (is_tiny_spec _ _ _ _ _ _ _ _ _ _ ?g0) ?k1 ?k2 ?k3 ?k4 ?k5 ?kK ?kd ?ku ?_; walk_at "mine use"; (case g0 => walk_at "mine pair")); intro _ _ _ _; (try dsimp only))
  k_with "mine call" => (k_here; (with_reducible show wpAny _ _ (call (Value.ref 131) [Value.ref _, Value.int _ _]) _ _ _); k_dflt (refine' use_int (fixed_spec _ _ _ _ _ _ _ _ _ _ ?g0 ?g1 ?g2 ?g3) ?k1 ?k2 ?k3 ?k4 ?k5 ?kK ?kd ?ku ?_; walk_at "mine use"; (case g0 => walk_at "mine pair"); (case g1 => walk_at "mine pre"); (case g2 => walk_at "mine pre"); (case g3 => walk_at "mine ok")); intro _ _ _ _ _; (try dsimp only))
  k_with "mine call" => (k_here; (with_reducible show wpAny _ _ (call (Value.ref 306) [Value.ref _]) _ _ _); k_dflt (refine' use_bool (is_nought_spec _ _ _ _ _ _ _ _ _ _ _ _ _ ?g0 ?g1 ?g2) ?k1 ?k2 ?k3 ?k4 ?k5 ?kK ?kd ?ku ?_; walk_at "mine use"; (case g0 => walk_at "mine mem"); (case g1 => walk_at "mine pair"); (case g2 => walk_at "mine pair")); intro _ _ _ _; (try dsimp only))
  k_with "mine call" => (k_here; (with_reducible show wpAny _ _ (call (Value.ref 201) [Value.ref _]) _ _ _); k_dflt (refine' use_none (check_positive_spec _ _ _ _ _ _ _ _ ?g0 ?g1) ?k1 ?k2 ?k3 ?k4 ?k5 ?kK ?kd ?ku ?_; walk_at "mine use"; (case g0 => walk_at "mine pair"); (case g1 => walk_at "mine pre")); intro _ _ _ _; (try dsimp only))
  k_with "mine call" => (k_here; (with_reducible show wpAny _ _ (call (Value.ref 145) [Value.int _ _, Value.int _ _, Value.int _ _]) _ _ _); k_dflt (refine' use_int (inverse_series_spec _ _ _ _ _ _ _ _ _ _ _ ?g0 ?g1 ?g2 ?g3) ?k1 ?k2 ?k3 ?k4 ?k5 ?kK ?kd ?ku ?_; walk_at "mine use"; (case g0 => walk_at "mine pre"); (case g1 => walk_at "mine pre"); (case g2 => walk_at "mine pre"); (case g3 => walk_at "mine pre")); intro _ _ _ _ _; (try dsimp only))
  k_with "mine call" => (k_here; (with_reducible show wpAny _ _ (call (Value.ref 152) [Value.int _ _]) _ _ _); k_dflt (refine' use_intR (log_of_ten_spec _ _ _ _ _ _ _ ?g0 ?g1) ?k1 ?k2 ?k3 ?k4 ?k5 ?kK ?kd ?ku ?_; walk_at "mine use"; (case g0 => walk_at "mine pre"); (case g1 => walk_at "mine pre")); intro _ _ _ _ _ _ _; (try dsimp only))
  k_with "mine call" => (k_here; (with_reducible show wpAny _ _ (call (Value.ref 159) [Value.int _ _]) _ _ _); k_dflt (refine' use_int (half_turn_spec _ _ _ _ _ _ _ ?g0 ?g1) ?k1 ?k2 ?k3 ?k4 ?k5 ?kK ?kd ?ku ?_; walk_at "mine use"; (case g0 => walk_at "mine pre"); (case g1 => walk_at "mine pre")); intro _ _ _ _ _; (try dsimp only))
  k_with "mine call" => (k_here; (with_reducible show wpAny _ _ (call (Value.ref 215) [Value.int _ _, Value.int _ _, Value.int _ _]) _ _ _); k_dflt (refine' use_intR (wave_fixed_spec _ _ _ _ _ _ _ _ _ _ _ ?g0 ?g1 ?g2 ?g3) ?k1 ?k2 ?k3 ?k4 ?k5 ?kK ?kd ?ku ?_; walk_at "mine use"; (case g0 => walk_at "mine pre"); (case g1 => walk_at "mine pre"); (case g2 => walk_at "mine pre"); (case g3 => walk_at "mine pre")); intro _ _ _ _ _ _ _; (try dsimp only))
  k_with "mine call" => (k_here; (with_reducible show wpAny _ _ (call (Value.ref 187) [Value.ref _, Value.int _ _, Value.int _ _]) _ _ _); k_dflt (refine' use_pairE (exp_real_spec _ _ _ _ _ _ _ _ _ _ _ ?g0) ?k1 ?k2 ?k3 ?k4 ?k5 ?kK ?kd ?ku ?_; walk_at "mine use"; (case g0 => walk_at "mine pair")); intro _ _ _ _ _ _ _; (try dsimp only))
  k_with "mine call" => (k_here; (with_reducible show wpAny _ _ (call (Value.ref 208) [Value.ref _, Value.int _ _, Value.int _ _]) _ _ _); k_dflt (refine' use_pairE (log_real_spec _ _ _ _ _ _ _ _ _ _ ?g0 ?g1 ?g2 ?g3) ?k1 ?k2 ?k3 ?k4 ?k5 ?kK ?kd ?ku ?_; walk_at "mine use"; (case g0 => walk_at "mine pair"); (case g1 => walk_at "mine pre"); (case g2 => walk_at "mine pre"); (case g3 => walk_at "mine pre")); intro _ _ _ _ _ _ _; (try dsimp only))
  k_with "mine call" => (k_here; (with_reducible show wpAny _ _ (call (Value.ref 264) [Value.ref _, Value.int _ _, Value.int _ _, Value.int _ _]) _ _ _); k_dflt (refine' use_pair (straight_angle_spec _ _ _ _ _ _ _ _ _ _ _ _ _ _ ?g0 ?g1 ?g2 ?g3 ?g4 ?g5 ?g6) ?k1 ?k2 ?k3 ?k4 ?k5 ?kK ?kd ?ku ?_; walk_at "mine use"; (case g0 => walk_at "mine pair"); (case g1 => walk_at "mine pre"); (case g2 => walk_at "mine pre"); (case g3 => walk_at "mine pre"); (case g4 => walk_at "mine pre"); (case g5 => walk_at "mine pre"); (case g6 => walk_at "mine pre")); intro _ _ _ _ _ _ _ _ _ _; (try dsimp only))
  k_with "mine call" => (k_here; (with_reducible show wpAny _ _ (call (Value.ref 299) [Value.ref _]) _ _ _); k_dflt (refine' use_pairE (size_square_spec _ _ _ _ _ _ _ _ _ _ _ _ ?g0 ?g1 ?g2 ?g3) ?k1 ?k2 ?k3 ?k4 ?k5 ?kK ?kd ?ku ?_; walk_at "mine use"; (case g0 => walk_at "mine mem"); (case g1 => walk_at "mine pair"); (case g2 => walk_at "mine pair"); (case g3 => walk_at "mine pre")); intro _ _ _ _ _ _ _; (try dsimp only))
  k_with "mine call" => (k_here; (with_reducible show wpAny _ _ (call (Value.ref 271) [Value.ref _, Value.ref _, Value.int _ _, Value.int _ _]) _ _ _); k_dflt (refine' use_pair (atan2_real_spec _ _ _ _ _ _ _ _ _ _ _ _ _ _ ?g0 ?g1 ?g2 ?g3 ?g4 ?g5 ?g6 ?g7) ?k1 ?k2 ?k3 ?k4 ?k5 ?kK ?kd ?ku ?_; walk_at "mine use"; (case g0 => walk_at "mine pair"); (case g1 => walk_at "mine pair"); (case g2 => walk_at "mine pre"); (case g3 => walk_at "mine pre"); (case g4 => walk_at "mine pre"); (case g5 => walk_at "mine pre"); (case g6 => walk_at "mine pre"); (case g7 => walk_at "mine pre")); intro _ _ _ _ _ _ _ _ _ _; (try dsimp only))
  k_with "mine call" => (k_here; (with_reducible show wpAny _ _ (call (Value.ref 278) [Value.ref _, Value.int _ _, Value.int _ _]) _ _ _); k_dflt (refine' use_cpx (round_parts_spec _ _ _ _ _ _ _ _ _ _ _ _ _ _ _ _ _ ?g0 ?g1 ?g2 ?g3 ?g4 ?g5 ?g6 ?g7) ?k1 ?k2 ?k3 ?k4 ?k5 ?kK ?kd ?ku ?_; walk_at "mine use"; (case g0 => walk_at "mine mem"); (case g1 => walk_at "mine pair"); (case g2 => walk_at "mine pair"); (case g3 => walk_at "mine pre"); (case g4 => walk_at "mine pre"); (case g5 => walk_at "mine pre"); (case g6 => walk_at "mine pre"); (case g7 => walk_at "mine pre")); intro _ _ _ _ _ _ _ _ _ _ _ _ _ _ _ _ _; (try dsimp only))
  k_with "mine call" => (k_here; (with_reducible show wpAny _ _ (call (Value.ref 327) [Value.ref _, Value.int _ _, Value.int _ _]) _ _ _); k_dflt (refine' use_cpx (log_both_spec _ _ _ _ _ _ _ _ _ _ _ _ _ _ _ _ ?g0 ?g1 ?g2 ?g3 ?g4 ?g5 ?g6 ?g7 ?g8) ?k1 ?k2 ?k3 ?k4 ?k5 ?kK ?kd ?ku ?_; walk_at "mine use"; (case g0 => walk_at "mine mem"); (case g1 => walk_at "mine pair"); (case g2 => walk_at "mine pair"); (case g3 => walk_at "mine pre"); (case g4 => walk_at "mine pre"); (case g5 => walk_at "mine pre"); (case g6 => walk_at "mine pre"); (case g7 => walk_at "mine pre"); (case g8 => walk_at "mine pre")); intro _ _ _ _ _ _ _ _ _ _ _ _ _ _ _ _ _; (try dsimp only))
  k_with "mine call" => (k_here; (with_reducible show wpAny _ _ (call (Value.ref 285) [Value.ref _, Value.ref _]) _ _ _); k_dflt (refine' use_cpxE (exact_product_spec _ _ _ _ _ _ _ _ _ _ _ _ _ _ _ _ _ _ _ _ _ ?g0 ?g1 ?g2 ?g3 ?g4 ?g5 ?g6 ?g7 ?g8) ?k1 ?k2 ?k3 ?k4 ?k5 ?kK ?kd ?ku ?_; walk_at "mine use"; (case g0 => walk_at "mine mem"); (case g1 => walk_at "mine pair"); (case g2 => walk_at "mine pair"); (case g3 => walk_at "mine mem"); (case g4 => walk_at "mine pair"); (case g5 => walk_at "mine pair"); (case g6 => walk_at "mine pre"); (case g7 => walk_at "mine pre"); (case g8 => walk_at "mine ok")); intro _ _ _ _ _ _ _ _ _ _ _ _; (try dsimp only))
  k_with "mine call" => (k_here; (with_reducible show wpAny _ _ (call (Value.ref 320) [Value.ref _, Value.int _ _, Value.int _ _]) _ _ _); k_dflt (refine' use_cpx (complex_exp_spec _ _ _ _ _ _ _ _ _ _ _ _ _ _ _ _ _ _ _ _ _ _ ?g0 ?g1 ?g2 ?g3 ?g4 ?g5 ?g6 ?g7 ?g8) ?k1 ?k2 ?k3 ?k4 ?k5 ?kK ?kd ?ku ?_; walk_at "mine use"; (case g0 => walk_at "mine mem"); (case g1 => walk_at "mine pair"); (case g2 => walk_at "mine pre"); (case g3 => walk_at "mine pair"); (case g4 => walk_at "mine pre"); (case g5 => walk_at "mine pre"); (case g6 => walk_at "mine pre"); (case g7 => walk_at "mine pre"); (case g8 => walk_at "mine pre")); intro _ _ _ _ _ _ _ _ _ _ _ _ _ _ _ _ _; (try dsimp only))
  trivial

set_option maxRecDepth 100000 in
set_option maxHeartbeats 1000000 in
theorem c2c_spec (w : World) (mean : ExcName → Option Value) (mg mb : Str → Option Value) (news : List (Addr × Obj)) (Zx D1 D2 Zy E1 E2 : Addr) (n n' : Nat) (k a c M e d : Int) (t u : Tok) (hz : (Zx, refsObj D1 D2 n) ∈ news) (hp : PairIn news D1 a 0) (hq : PairIn news D2 c 0) (hu : UnitIs k a c)
    (hz' : (Zy, refsObj E1 E2 n') ∈ news) (hp' : PairIn news E1 M e) (hq' : PairIn news E2 0 0) (S : Sit k M e d) (hM : M ≠ 0) (hk : k ≠ 0) :
    Fn w mean mg mb 332 8 [.ref Zx, .ref Zy, .int d t, .int 38 u] news (PCpx (NearC ((k * (M * 10 ^ e.toNat)).fmod 4) d)) := by
  have hn := unit_not hu
  have hl := S.hl
  have he := S.he
  have hd1 := S.d1.1
  have hd2 := S.d1.2
  have hMs := sit_smM S
  walk_at "mine start"
  k_with "mine pre" => with_reducible first
    | exact ⟨rfl, rfl⟩
    | exact Int.le_trans (math_A1 (by omega) (by omega)) (by omega)
    | exact Int.le_trans (math_A2 (by omega) (by omega)) (by omega)
    | exact math_wave' (by with_reducible assumption) S hM hk (by with_reducible assumption) (by with_reducible assumption)
    | exact math_not_tiny' (by with_reducible assumption) S hM hk (by with_reducible assumption) (by with_reducible assumption)
  k_with "mine sm" => with_reducible exact theta_sm' (by with_reducible assumption) (by omega) (by omega)
  k_steps
  all_goals walk_at "mine endc"
  all_goals exact math_near' (by with_reducible assumption) (by with_reducible assumption) S hM hk (by with_reducible assumption) (by with_reducible assumption)
end
section
local macro_rules | `(tactic| walk_at "mine dummy") => `(tactic| skip)
theorem words_S19 : True := by
  k_with_none
  k_with "mine call" => (k_here; (with_reducible show wpAny _ _ (call (Value.ref 54) [Value.int _ _]) _ _ _); k_dflt (refine' use_int (count_digits_spec _ _ _ _ _ _ _ ) ?k1 ?k2 ?k3 ?k4 ?k5 ?kK ?kd ?ku ?_; walk_at "mine use"); intro _ _ _ _ _; (try dsimp only))
  k_with "mine call" => (k_here; (with_reducible show wpAny _ _ (call (Value.ref 61) [Value.int _ _, Value.int _ _]) _ _ _); k_dflt (refine' use_pair (strip_zeros_spec _ _ _ _ _ _ _ _ _ ) ?k1 ?k2 ?k3 ?k4 ?k5 ?kK ?kd ?ku ?_; walk_at "mine use"); intro _ _ _ _ _ _ _ _ _ _; (try dsimp only))
  k_with "mine call" => (k_here; (with_reducible show wpAny _ _ (call (Value.ref 68) [Value.int _ _, Value.int _ _, Value.int _ _]) _ _ _); k_dflt (refine' use_pair (round_digits_spec _ _ _ _ _ _ _ _ _ _ _ ?g0 ?g1) ?k1 ?k2 ?k3 ?k4 ?k5 ?kK ?kd ?ku ?_; walk_at "mine use"; (case g0 => walk_at "mine pre"); (case g1 => walk_at "mine pre")); intro _ _ _ _ _ _ _ _ _ _; (try dsimp only))
  k_with "mine call" => (k_here; (with_reducible show wpAny _ _ (call (Value.ref 75) [Value.int _ _, Value.int _ _, Value.int _ _, Value.int _ _]) _ _ _); k_dflt (refine' use_pair (round_real_spec _ _ _ _ _ _ _ _ _ _ _ _ _ ?g0 ?g1 ?g2) ?k1 ?k2 ?k3 ?k4 ?k5 ?kK ?kd ?ku ?_; walk_at "mine use"; (case g0 => walk_at "mine pre"); (case g1 => walk_at "mine pre"); (case g2 => walk_at "mine pre")); intro _ _ _ _ _ _ _ _ _ _; (try dsimp only))
  k_with "mine call" => (k_here; (with_reducible show wpAny _ _ (call (Value.ref 117) [Value.ref _]) _ _ _); k_dflt (refine' use_int (lead_of_spec _ _ _ _ _ _ _ _ ?g0) ?k1 ?k2 ?k3 ?k4 ?k5 ?kK ?kd ?ku ?_; walk_at "mine use"; (case g0 => walk_at "mine pair")); intro _ _ _ _ _; (try dsimp only))
  k_with "mine call" => (k_here; (with_reducible show wpAny _ _ (call (Value.ref 89) [Value.ref _, Value.ref _]) _ _ _); k_dflt (refine' use_pairE (exact_mul_spec _ _ _ _ _ _ _ _ _ _ _ ?g0 ?g1 ?g2) ?k1 ?k2 ?k3 ?k4 ?k5 ?kK ?kd ?ku ?_; walk_at "mine use"; (case g0 => walk_at "mine pair"); (case g1 => walk_at "mine pair"); (case g2 => walk_at "mine ok")); intro _ _ _ _ _ _ _; (try dsimp only))
  k_with "mine call" => (k_here; (with_reducible show wpAny _ _ (call (Value.ref 96) [Value.ref _]) _ _ _); k_dflt (refine' use_pairE (real_neg_spec _ _ _ _ _ _ _ _ ?g0) ?k1 ?k2 ?k3 ?k4 ?k5 ?kK ?kd ?ku ?_; walk_at "mine use"; (case g0 => walk_at "mine pair")); intro _ _ _ _ _ _ _; (try dsimp only))
  k_with "mine call" => (k_here; (with_reducible show wpAny _ _ (call (Value.ref 313) [Value.ref _]) _ _ _); k_dflt (refine' use_pairE (halved_spec _ _ _ _ _ _ _ _ ?g0) ?k1 ?k2 ?k3 ?k4 ?k5 ?kK ?kd ?ku ?_; walk_at "mine use"; (case g0 => walk_at "mine pair")); intro _ _ _ _ _ _ _; (try dsimp only))
  k_with "mine call" => (k_here; (with_reducible show wpAny _ _ (call (Value.ref 292) [Value.int _ _]) _ _ _); k_dflt (refine' use_int (wide_top_spec _ _ _ _ _ _ _ ) ?k1 ?k2 ?k3 ?k4 ?k5 ?kK ?kd ?ku ?_; walk_at "mine use"); intro _ _ _ _ _; (try dsimp only))
  k_with "mine call" => (k_here; (with_reducible show wpAny _ _ (call (Value.ref 82) [Value.ref _, Value.ref _]) _ _ _); k_dflt (refine' use_pair (exact_add_spec _ _ _ _ _ _ _ _ _ _ _ ?g0 ?g1 ?g2) ?k1 ?k2 ?k3 ?k4 ?k5 ?kK ?kd ?ku ?_; walk_at "mine use"; (case g0 => walk_at "mine pair"); (case g1 => walk_at "mine pair"); (case g2 => walk_at "mine pre")); intro _ _ _ _ _ _ _ _ _ _; (try dsimp only))
  k_with "mine call" => (k_here; (with_reducible show wpAny _ _ (call (Value.ref 124) [Value.ref _, Value.int _ _]) _ _ _); k_dflt (refine' use_int (places_for_spec _ _ _ _ _ _ _ _ _ _ ?g0) ?k1 ?k2 ?k3 ?k4 ?k5 ?kK ?kd ?ku ?_; walk_at "mine use"; (case g0 => walk_at "mine pair")); intro _ _ _ _ _; (try dsimp only))
  k_with "mine call" => (k_here; (with_reducible show wpAny _ _ (call (Value.ref 229) [Value.ref _, Value.int _ _]) _ _ _); k_dflt (refine' use_bool (is_tiny_spec _ _ _ _ _ _ _ _ _ _ ?g0) ?k1 ?k2 ?k3 ?k4 ?k5 ?kK ?kd ?ku ?_; walk_at "mine use"; (case g0 => walk_at "mine pair")); intro _ _ _ _; (try dsimp only))
  k_with "mine call" => (k_here; (with_reducible show wpAny _ _ (call (Value.ref 131) [Value.ref _, Value.int _ _]) _ _ _); k_dflt (refine' use_int (fixed_spec _ _ _ _ _ _ _ _ _ _ ?g0 ?g1 ?g2 ?g3) ?k1 ?k2 ?k3 ?k4 ?k5 ?kK ?kd ?ku ?_; walk_at "mine use"; (case g0 => walk_at "mine pair"); (case g1 => walk_at "mine pre"); (case g2 => walk_at "mine pre"); (case g3 => walk_at "mine ok")); intro _ _ _ _ _; (try dsimp only))
  k_with "mine call" => (k_here; (with_reducible show wpAny _ _ (call (Value.ref 306) [Value.ref _]) _ _ _); k_dflt (refine' use_bool (is_nought_spec _ _ _ _ _ _ _ _ _ _ _ _ _ ?g0 ?g1 ?g2) ?k1 ?k2 ?k3 ?k4 ?k5 ?kK ?kd ?ku ?_; walk_at "mine use"; (case g0 => walk_at "mine mem"); (case g1 => walk_at "mine pair"); (case g2 => walk_at "mine pair")); intro _ _ _ _; (try dsimp only))
  k_with "mine call" => (k_here; (with_reducible show wpAny _ _ (call (Value.ref 201) [Value.ref _]) _ _ _); k_dflt (refine' use_none (check_positive_spec _ _ _ _ _ _ _ _ ?g0 ?g1) ?k1 ?k2 ?k3 ?k4 ?k5 ?kK ?kd ?ku ?_; walk_at "mine use"; (case g0 => walk_at "mine pair"); (case g1 => walk_at "mine pre")); intro _ _ _ _; (try dsimp only))
  k_with "mine call" => (k_here; (with_reducible show wpAny _ _ (call (Value.ref 145) [Value.int _ _, Value.int _ _, Value.int _ _]) _ _ _); k_dflt (refine' use_int (inverse_series_spec _ _ _ _ _ _ _ _ _ _ _ ?g0 ?g1 ?g2 ?g3) ?k1 ?k2 ?k3 ?k4 ?k5 ?kK ?kd ?ku ?_; walk_at "mine use"; (case g0 => walk_at "mine pre"); (case g1 => walk_at "mine pre"); (case g2 => walk_at "mine pre"); (case g3 => walk_at "mine pre")); intro _ _ _ _ _; (try dsimp only))
  k_with "mine call" => (k_here; (with_reducible show wpAny _ _ (call (Value.ref 152) [Value.int _ _]) _ _ _); k_dflt (refine' use_intR (log_of_ten_spec _ _ _ _ _ _ _ ?g0 ?g1) ?k1 ?k2 ?k3 ?k4 ?k5 ?kK ?kd ?ku ?_; walk_at "mine use"; (case g0 => walk_at "mine pre"); (case g1 => walk_at "mine pre")); intro _ _ _ _ _ _ _; (try dsimp only))
  k_with "mine call" => (k_here; (with_reducible show wpAny _ _ (call (Value.ref 159) [Value.int _ _]) _ _ _); k_dflt (refine' use_int (half_turn_spec _ _ _ _ _ _ _ ?g0 ?g1) ?k1 ?k2 ?k3 ?k4 ?k5 ?kK ?kd ?ku ?_; walk_at "mine use"; (case g0 => walk_at "mine pre"); (case g1 => walk_at "mine pre")); intro _ _ _ _ _; (try dsimp only))
  k_with "mine call" => (k_here; (with_reducible show wpAny _ _ (call (Value.ref 215) [Value.int _ _, Value.int _ _, Value.int _ _]) _ _ _); k_dflt (refine' use_intR (wave_fixed_spec _ _ _ _ _ _ _ _ _ _ _ ?g0 ?g1 ?g2 ?g3) ?k1 ?k2 ?k3 ?k4 ?k5 ?kK ?kd ?ku ?_; walk_at "mine use"; (case g0 => walk_at "mine pre"); (case g1 => walk_at "mine pre"); (case g2 => walk_at "mine pre"); (case g3 => walk_at "mine pre")); intro _ _ _ _ _ _ _; (try dsimp only))
  k_with "mine call" => (k_here; (with_reducible show wpAny _ _ (call (Value.ref 187) [Value.ref _, Value.int _ _, Value.int _ _]) _ _ _); k_dflt (refine' use_pairE (exp_real_spec _ _ _ _ _ _ _ _ _ _ _ ?g0) ?k1 ?k2 ?k3 ?k4 ?k5 ?kK ?kd ?ku ?_; walk_at "mine use"; (case g0 => walk_at "mine pair")); intro _ _ _ _ _ _ _; (try dsimp only))
  k_with "mine call" => (k_here; (with_reducible show wpAny _ _ (call (Value.ref 208) [Value.ref _, Value.int _ _, Value.int _ _]) _ _ _); k_dflt (refine' use_pairE (log_real_spec _ _ _ _ _ _ _ _ _ _ ?g0 ?g1 ?g2 ?g3) ?k1 ?k2 ?k3 ?k4 ?k5 ?kK ?kd ?ku ?_; walk_at "mine use"; (case g0 => walk_at "mine pair"); (case g1 => walk_at "mine pre"); (case g2 => walk_at "mine pre"); (case g3 => walk_at "mine pre")); intro _ _ _ _ _ _ _; (try dsimp only))
  k_with "mine call" => (k_here; (with_reducible show wpAny _ _ (call (Value.ref 264) [Value.ref _, Value.int _ _, Value.int _ _, Value.int _ _]) _ _ _); k_dflt (refine' use_pair (straight_angle_spec _ _ _ _ _ _ _ _ _ _ _ _ _ _ ?g0 ?g1 ?g2 ?g3 ?g4 ?g5 ?g6) ?k1 ?k2 ?k3 ?k4 ?k5 ?kK ?kd ?ku ?_; walk_at "mine use"; (case g0 => walk_at "mine pair"); (case g1 => walk_at "mine pre"); (case g2 => walk_at "mine pre"); (case g3 => walk_at "mine pre"); (case g4 => walk_at "mine pre"); (case g5 => walk_at "mine pre"); (case g6 => walk_at "mine pre")); intro _ _ _ _ _ _ _ _ _ _; (try dsimp only))
  k_with "mine call" => (k_here; (with_reducible show wpAny _ _ (call (Value.ref 299) [Value.ref _]) _ _ _); k_dflt (refine' use_pairE (size_square_spec _ _ _ _ _ _ _ _ _ _ _ _ ?g0 ?g1 ?g2 ?g3) ?k1 ?k2 ?k3 ?k4 ?k5 ?kK ?kd ?ku ?_; walk_at "mine use"; (case g0 => walk_at "mine mem"); (case g1 => walk_at "mine pair"); (case g2 => walk_at "mine pair"); (case g3 => walk_at "mine pre")); intro _ _ _ _ _ _ _; (try dsimp only))
  k_with "mine call" => (k_here; (with_reducible show wpAny _ _ (call (Value.ref 271) [Value.ref _, Value.ref _, Value.int _ _, Value.int _ _]) _ _ _); k_dflt (refine' use_pair (atan2_real_spec _ _ _ _ _ _ _ _ _ _ _ _ _ _ ?g0 ?g1 ?g2 ?g3 ?g4 ?g5 ?g6 ?g7) ?k1 ?k2 ?k3 ?k4 ?k5 ?kK ?kd ?ku ?_; walk_at "mine use"; (case g0 => walk_at "mine pair"); (case g1 => walk_at "mine pair"); (case g2 => walk_at "mine pre"); (case g3 => walk_at "mine pre"); (case g4 => walk_at "mine pre"); (case g5 => walk_at "mine pre"); (case g6 => walk_at "mine pre"); (case g7 => walk_at "mine pre")); intro _ _ _ _ _ _ _ _ _ _; (try dsimp only))
  k_with "mine call" => (k_here; (with_reducible show wpAny _ _ (call (Value.ref 278) [Value.ref _, Value.int _ _, Value.int _ _]) _ _ _); k_dflt (refine' use_cpx (round_parts_spec _ _ _ _ _ _ _ _ _ _ _ _ _ _ _ _ _ ?g0 ?g1 ?g2 ?g3 ?g4 ?g5 ?g6 ?g7) ?k1 ?k2 ?k3 ?k4 ?k5 ?kK ?kd ?ku ?_; walk_at "mine use"; (case g0 => walk_at "mine mem"); (case g1 => walk_at "mine pair"); (case g2 => walk_at "mine pair"); (case g3 => walk_at "mine pre"); (case g4 => walk_at "mine pre"); (case g5 => walk_at "mine pre"); (case g6 => walk_at "mine pre"); (case g7 => walk_at "mine pre")); intro _ _ _ _ _ _ _ _ _ _ _ _ _ _ _ _ _; (try dsimp only))
  k_with "mine call" => (k_here; (with_reducible show wpAny _ _ (call (Value.ref 327) [Value.ref _, Value.int _ _, Value.int _ _]) _ _ _); k_dflt (refine' use_cpx (log_both_spec _ _ _ _ _ _ _ _ _ _ _ _ _ _ _ _ ?g0 ?g1 ?g2 ?g3 ?g4 ?g5 ?g6 ?g7 ?g8) ?k1 ?k2 ?k3 ?k4 ?k5 ?kK ?kd ?ku ?_; walk_at "mine use"; (case g0 => walk_at "mine mem"); (case g1 => walk_at "mine pair"); (case g2 => walk_at "mine pair"); (case g3 => walk_at "mine pre"); (case g4 => walk_at "mine pre"); (case g5 => walk_at "mine pre"); (case g6 => walk_at "mine pre"); (case g7 => walk_at "mine pre"); (case g8 => walk_at "mine pre")); intro _ _ _ _ _ _ _ _ _ _ _ _ _ _ _ _ _; (try dsimp only))
  k_with "mine call" => (k_here; (with_reducible show wpAny _ _ (call (Value.ref 285) [Value.ref _, Value.ref _]) _ _ _); k_dflt (refine' use_cpxE (exact_product_spec _ _ _ _ _ _ _ _ _ _ _ _ _ _ _ _ _ _ _ _ _ ?g0 ?g1 ?g2 ?g3 ?g4 ?g5 ?g6 ?g7 ?g8) ?k1 ?k2 ?k3 ?k4 ?k5 ?kK ?kd ?ku ?_; walk_at "mine use"; (case g0 => walk_at "mine mem"); (case g1 => walk_at "mine pair"); (case g2 => walk_at "mine pair"); (case g3 => walk_at "mine mem"); (case g4 => walk_at "mine pair"); (case g5 => walk_at "mine pair"); (case g6 => walk_at "mine pre"); (case g7 => walk_at "mine pre"); (case g8 => walk_at "mine ok")); intro _ _ _ _ _ _ _ _ _ _ _ _; (try dsimp only))
  k_with "mine call" => (k_here; (with_reducible show wpAny _ _ (call (Value.ref 320) [Value.ref _, Value.int _ _, Value.int _ _]) _ _ _); k_dflt (refine' use_cpx (complex_exp_tiny_spec _ _ _ _ _ _ _ _ _ _ _ _ _ _ _ _ _ ?g0 ?g1 ?g2 ?g3 ?g4 ?g5 ?g6 ?g7) ?k1 ?k2 ?k3 ?k4 ?k5 ?kK ?kd ?ku ?_; walk_at "mine use"; (case g0 => walk_at "mine mem"); (case g1 => walk_at "mine pair"); (case g2 => walk_at "mine pair"); (case g3 => walk_at "mine pre"); (case g4 => walk_at "mine pre"); (case g5 => walk_at "mine pre"); (case g6 => walk_at "mine pre"); (case g7 => walk_at "mine pre")); intro _ _ _ _ _ _ _ _ _ _ _ _ _ _ _ _ _; (try dsimp only))
  trivial

set_option maxRecDepth 100000 in
set_option maxHeartbeats 4000000 in
theorem c2c0_spec (w : World) (mean : ExcName → Option Value) (mg mb : Str → Option Value) (news : List (Addr × Obj)) (Zx D1 D2 Zy E1 E2 : Addr) (n n' : Nat) (k a c M e d : Int) (t u : Tok) (hz : (Zx, refsObj D1 D2 n) ∈ news) (hp : PairIn news D1 a 0) (hq : PairIn news D2 c 0) (hu : UnitIs k a c)
    (hz' : (Zy, refsObj E1 E2 n') ∈ news) (hp' : PairIn news E1 M e) (hq' : PairIn news E2 0 0) (S : Sit k M e d) (h0 : k = 0 ∨ M = 0) :
    Fn w mean mg mb 332 8 [.ref Zx, .ref Zy, .int d t, .int 38 u] news (PCpx (NearC ((k * (M * 10 ^ e.toNat)).fmod 4) d)) := by
  have hn := unit_not hu
  have hl := S.hl
  have he := S.he
  have hd1 := S.d1.1
  have hd2 := S.d1.2
  have hMs := sit_smM S
  by_cases hM : M = 0
  all_goals walk_at "mine start"
  all_goals k_with "mine pre" => with_reducible first
    | exact ⟨rfl, rfl⟩
    | exact Int.le_trans (math_A1 (by omega) (by omega)) (by omega)
    | exact Int.le_trans (math_A2 (by omega) (by omega)) (by omega)
    | exact theta_zero' (by with_reducible assumption) h0
    | exact theta_e' (by with_reducible assumption) (by omega) (by omega) S hl
  all_goals k_with "mine sm" => with_reducible exact theta_sm' (by with_reducible assumption) (by omega) (by omega)
  all_goals k_steps
  all_goals walk_at "mine endc"
  all_goals exact math_near0 S h0 (by with_reducible assumption)
end
section
theorem words_S20 : True := by
  k_with_none
  k_with "mine call" => (k_here; (with_reducible show wpAny _ _ (call (Value.ref 54) [Value.int _ _]) _ _ _); k_dflt (refine' use_int (count_digits_spec _ _ _ _ _ _ _ ) ?k1 ?k2 ?k3 ?k4 ?k5 ?kK ?kd ?ku ?_; walk_at "mine use"); intro _ _ _ _ _; (try dsimp only))
  k_with "mine call" => (k_here; (with_reducible show wpAny _ _ (call (Value.ref 61) [Value.int _ _, Value.int _ _]) _ _ _); k_dflt (refine' use_pair (strip_zeros_spec _ _ _ _ _ _ _ _ _ ) ?k1 ?k2 ?k3 ?k4 ?k5 ?kK ?kd ?ku ?_; walk_at "mine use"); intro _ _ _ _ _ _ _ _ _ _; (try dsimp only))
  k_with "mine call" => (k_here; (with_reducible show wpAny _ _ (call (Value.ref 68) [Value.int _ _, Value.int _ _, Value.int _ _]) _ _ _); k_dflt (refine' use_pair (round_digits_spec _ _ _ _ _ _ _ _ _ _ _ ?g0 ?g1) ?k1 ?k2 ?k3 ?k4 ?k5 ?kK ?kd ?ku ?_; walk_at "mine use"; (case g0 => walk_at "mine pre"); (case g1 => walk_at "mine pre")); intro _ _ _ _ _ _ _ _ _ _; (try dsimp only))
  k_with "mine call" => (k_here; (with_reducible show wpAny _ _ (call (Value.ref 75) [Value.int _ _, Value.int _ _, Value.int _ _, Value.int _ _]) _ _ _); k_dflt (refine' use_pair (round_real_spec _ _ _ _ _ _ _ _ _ _ _ _ _ ?g0 ?g1 ?g2) ?k1 ?k2 ?k3 ?k4 ?k5 ?kK ?kd ?ku ?_; walk_at "mine use"; (case g0 => walk_at "mine pre"); (case g1 => walk_at "mine pre"); (case g2 => walk_at "mine pre")); intro _ _ _ _ _ _ _ _ _ _; (try dsimp only))
  k_with "mine call" => (k_here; (with_reducible show wpAny _ _ (call (Value.ref 117) [Value.ref _]) _ _ _); k_dflt (refine' use_int (lead_of_spec _ _ _ _ _ _ _ _ ?g0) ?k1 ?k2 ?k3 ?k4 ?k5 ?kK ?kd ?ku ?_; walk_at "mine use"; (case g0 => walk_at "mine pair")); intro _ _ _ _ _; (try dsimp only))
  k_with "mine call" => (k_here; (with_reducible show wpAny _ _ (call (Value.ref 89) [Value.ref _, Value.ref _]) _ _ _); k_dflt (refine' use_pairE (exact_mul_spec _ _ _ _ _ _ _ _ _ _ _ ?g0 ?g1 ?g2) ?k1 ?k2 ?k3 ?k4 ?k5 ?kK ?kd ?ku ?_; walk_at "mine use"; (case g0 => walk_at "mine pair"); (case g1 => walk_at "mine pair"); (case g2 => walk_at "mine ok")); intro _ _ _ _ _ _ _; (try dsimp only))
  k_with "mine call" => (k_here; (with_reducible show wpAny _ _ (call (Value.ref 96) [Value.ref _]) _ _ _); k_dflt (refine' use_pairE (real_neg_spec _ _ _ _ _ _ _ _ ?g0) ?k1 ?k2 ?k3 ?k4 ?k5 ?kK ?kd ?ku ?_; walk_at "mine use"; (case g0 => walk_at "mine pair")); intro _ _ _ _ _ _ _; (try dsimp only))
  k_with "mine call" => (k_here; (with_reducible show wpAny _ _ (call (Value.ref 313) [Value.ref _]) _ _ _); k_dflt (refine' use_pairE (halved_spec _ _ _ _ _ _ _ _ ?g0) ?k1 ?k2 ?k3 ?k4 ?k5 ?kK ?kd ?ku ?_; walk_at "mine use"; (case g0 => walk_at "mine pair")); intro _ _ _ _ _ _ _; (try dsimp only))
  k_with "mine call" => (k_here; (with_reducible show wpAny _ _ (call (Value.ref 292) [Value.int _ _]) _ _ _); k_dflt (refine' use_int (wide_top_spec _ _ _ _ _ _ _ ) ?k1 ?k2 ?k3 ?k4 ?k5 ?kK ?kd ?ku ?_; walk_at "mine use"); intro _ _ _ _ _; (try dsimp only))
  k_with "mine call" => (k_here; (with_reducible show wpAny _ _ (call (Value.ref 82) [Value.ref _, Value.ref _]) _ _ _); k_dflt (refine' use_pair (exact_add_spec _ _ _ _ _ _ _ _ _ _ _ ?g0 ?g1 ?g2) ?k1 ?k2 ?k3 ?k4 ?k5 ?kK ?kd ?ku ?_; walk_at "mine use"; (case g0 => walk_at "mine pair"); (case g1 => walk_at "mine pair"); (case g2 => walk_at "mine pre")); intro _ _ _ _ _ _ _ _ _ _; (try dsimp only))
  k_with "mine call" => (k_here; (with_reducible show wpAny _ _ (call (Value.ref 124) [Value.ref _, Value.int _ _]) _ _ _); k_dflt (refine' use_int (places_for_spec _ _ _ _ _ _ _ _ _ _ ?g0) ?k1 ?k2 ?k3 ?k4 ?k5 ?kK ?kd ?ku ?_; walk_at "mine use"; (case g0 => walk_at "mine pair")); intro _ _ _ _ _; (try dsimp only))
  k_with "mine call" => (k_here; (with_reducible show wpAny _ _ (call (Value.ref 229) [Value.ref _, Value.int _ _]) _ _ _); k_dflt (refine' use_bool (is_tiny_spec _ _ _ _ _ _ _ _ _ _ ?g0) ?k1 ?k2 ?k3 ?k4 ?k5 ?kK ?kd ?ku ?_; walk_at "mine use"; (case g0 => walk_at "mine pair")); intro _ _ _ _; (try dsimp only))
  k_with "mine call" => (k_here; (with_reducible show wpAny _ _ (call (Value.ref 131) [Value.ref _, Value.int _ _]) _ _ _); k_dflt (refine' use_int (fixed_spec _ _ _ _ _ _ _ _ _ _ ?g0 ?g1 ?g2 ?g3) ?k1 ?k2 ?k3 ?k4 ?k5 ?kK ?kd ?ku ?_; walk_at "mine use"; (case g0 => walk_at "mine pair"); (case g1 => walk_at "mine pre"); (case g2 => walk_at "mine pre"); (case g3 => walk_at "mine ok")); intro _ _ _ _ _; (try dsimp only))
  k_with "mine call" => (k_here; (with_reducible show wpAny _ _ (call (Value.ref 306) [Value.ref _]) _ _ _); k_dflt (refine' use_bool (is_nought_spec _ _ _ _ _ _ _ _ _ _ _ _ _ ?g0 ?g1 ?g2) ?k1 ?k2 ?k3 ?k4 ?k5 ?kK ?kd ?ku ?_; walk_at "mine use"; (case g0 => walk_at "mine mem"); (case g1 => walk_at "mine pair"); (case g2 => walk_at "mine pair")); intro _ _ _ _; (try dsimp only))
  k_with "mine call" => (k_here; (with_reducible show wpAny _ _ (call (Value.ref 201) [Value.ref _]) _ _ _); k_dflt (refine' use_none (check_positive_spec _ _ _ _ _ _ _ _ ?g0 ?g1) ?k1 ?k2 ?k3 ?k4 ?k5 ?kK ?kd ?ku ?_; walk_at "mine use"; (case g0 => walk_at "mine pair"); (case g1 => walk_at "mine pre")); intro _ _ _ _; (try dsimp only))
  k_with "mine call" => (k_here; (with_reducible show wpAny _ _ (call (Value.ref 145) [Value.int _ _, Value.int _ _, Value.int _ _]) _ _ _); k_dflt (refine' use_int (inverse_series_spec _ _ _ _ _ _ _ _ _ _ _ ?g0 ?g1 ?g2 ?g3) ?k1 ?k2 ?k3 ?k4 ?k5 ?kK ?kd ?ku ?_; walk_at "mine use"; (case g0 => walk_at "mine pre"); (case g1 => walk_at "mine pre"); (case g2 => walk_at "mine pre"); (case g3 => walk_at "mine pre")); intro _ _ _ _ _; (try dsimp only))
  k_with "mine call" => (k_here; (with_reducible show wpAny _ _ (call (Value.ref 152) [Value.int _ _]) _ _ _); k_dflt (refine' use_intR (log_of_ten_spec _ _ _ _ _ _ _ ?g0 ?g1) ?k1 ?k2 ?k3 ?k4 ?k5 ?kK ?kd ?ku ?_; walk_at "mine use"; (case g0 => walk_at "mine pre"); (case g1 => walk_at "mine pre")); intro _ _ _ _ _ _ _; (try dsimp only))
  k_with "mine call" => (k_here; (with_reducible show wpAny _ _ (call (Value.ref 159) [Value.int _ _]) _ _ _); k_dflt (refine' use_int (half_turn_spec _ _ _ _ _ _ _ ?g0 ?g1) ?k1 ?k2 ?k3 ?k4 ?k5 ?kK ?kd ?ku ?_; walk_at "mine use"; (case g0 => walk_at "mine pre"); (case g1 => walk_at "mine pre")); intro _ _ _ _ _; (try dsimp only))
  k_with "mine call" => (k_here; (with_reducible show wpAny _ _ (call (Value.ref 215) [Value.int _ _, Value.int _ _, Value.int _ _]) _ _ _); k_dflt (refine' use_intR (wave_fixed_spec _ _ _ _ _ _ _ _ _ _ _ ?g0 ?g1 ?g2 ?g3) ?k1 ?k2 ?k3 ?k4 ?k5 ?kK ?kd ?ku ?_; walk_at "mine use"; (case g0 => walk_at "mine pre"); (case g1 => walk_at "mine pre"); (case g2 => walk_at "mine pre"); (case g3 => walk_at "mine pre")); intro _ _ _ _ _ _ _; (try dsimp only))
  k_with "mine call" => (k_here; (with_reducible show wpAny _ _ (call (Value.ref 187) [Value.ref _, Value.int _ _, Value.int _ _]) _ _ _); k_dflt (refine' use_pairE (exp_real_spec _ _ _ _ _ _ _ _ _ _ _ ?g0) ?k1 ?k2 ?k3 ?k4 ?k5 ?kK ?kd ?ku ?_; walk_at "mine use"; (case g0 => walk_at "mine pair")); intro _ _ _ _ _ _ _; (try dsimp only))
  k_with "mine call" => (k_here; (with_reducible show wpAny _ _ (call (Value.ref 208) [Value.ref _, Value.int _ _, Value.int _ _]) _ _ _); k_dflt (refine' use_pairE (log_real_spec _ _ _ _ _ _ _ _ _ _ ?g0 ?g1 ?g2 ?g3) ?k1 ?k2 ?k3 ?k4 ?k5 ?kK ?kd ?ku ?_; walk_at "mine use"; (case g0 => walk_at "mine pair"); (case g1 => walk_at "mine pre"); (case g2 => walk_at "mine pre"); (case g3 => walk_at "mine pre")); intro _ _ _ _ _ _ _; (try dsimp only))
  k_with "mine call" => (k_here; (with_reducible show wpAny _ _ (call (Value.ref 264) [Value.ref _, Value.int _ _, Value.int _ _, Value.int _ _]) _ _ _); k_dflt (refine' use_pair (straight_angle_spec _ _ _ _ _ _ _ _ _ _ _ _ _ _ ?g0 ?g1 ?g2 ?g3 ?g4 ?g5 ?g6) ?k1 ?k2 ?k3 ?k4 ?k5 ?kK ?kd ?ku ?_; walk_at "mine use"; (case g0 => walk_at "mine pair"); (case g1 => walk_at "mine pre"); (case g2 => walk_at "mine pre"); (case g3 => walk_at "mine pre"); (case g4 => walk_at "mine pre"); (case g5 => walk_at "mine pre"); (case g6 => walk_at "mine pre")); intro _ _ _ _ _ _ _ _ _ _; (try dsimp only))
  k_with "mine call" => (k_here; (with_reducible show wpAny _ _ (call (Value.ref 299) [Value.ref _]) _ _ _); k_dflt (refine' use_pairE (size_square_spec _ _ _ _ _ _ _ _ _ _ _ _ ?g0 ?g1 ?g2 ?g3) ?k1 ?k2 ?k3 ?k4 ?k5 ?kK ?kd ?ku ?_; walk_at "mine use"; (case g0 => walk_at "mine mem"); (case g1 => walk_at "mine pair"); (case g2 => walk_at "mine pair"); (case g3 => walk_at "mine pre")); intro _ _ _ _ _ _ _; (try dsimp only))
  k_with "mine call" => (k_here; (with_reducible show wpAny _ _ (call (Value.ref 271) [Value.ref _, Value.ref _, Value.int _ _, Value.int _ _]) _ _ _); k_dflt (refine' use_pair (atan2_real_spec _ _ _ _ _ _ _ _ _ _ _ _ _ _ ?g0 ?g1 ?g2 ?g3 ?g4 ?g5 ?g6 ?g7) ?k1 ?k2 ?k3 ?k4 ?k5 ?kK ?kd ?ku ?_; walk_at "mine use"; (case g0 => walk_at "mine pair"); (case g1 => walk_at "mine pair"); (case g2 => walk_at "mine pre"); (case g3 => walk_at "mine pre"); (case g4 => walk_at "mine pre"); (case g5 => walk_at "mine pre"); (case g6 => walk_at "mine pre"); (case g7 => walk_at "mine pre")); intro _ _ _ _ _ _ _ _ _ _; (try dsimp only))
  k_with "mine call" => (k_here; (with_reducible show wpAny _ _ (call (Value.ref 278) [Value.ref _, Value.int _ _, Value.int _ _]) _ _ _); k_dflt (refine' use_cpx (round_parts_spec _ _ _ _ _ _ _ _ _ _ _ _ _ _ _ _ _ ?g0 ?g1 ?g2 ?g3 ?g4 ?g5 ?g6 ?g7) ?k1 ?k2 ?k3 ?k4 ?k5 ?kK ?kd ?ku ?_; walk_at "mine use"; (case g0 => walk_at "mine mem"); (case g1 => walk_at "mine pair"); (case g2 => walk_at "mine pair"); (case g3 => walk_at "mine pre"); (case g4 => walk_at "mine pre"); (case g5 => walk_at "mine pre"); (case g6 => walk_at "mine pre"); (case g7 => walk_at "mine pre")); intro _ _ _ _ _ _ _ _ _ _ _ _ _ _ _ _ _; (try dsimp only))
  k_with "mine call" => (k_here; (with_reducible show wpAny _ _ (call (Value.ref 327) [Value.ref _, Value.int _ _, Value.int _ _]) _ _ _); k_dflt (refine' use_cpx (log_both_spec _ _ _ _ _ _ _ _ _ _ _ _ _ _ _ _ ?g0 ?g1 ?g2 ?g3 ?g4 ?g5 ?g6 ?g7 ?g8) ?k1 ?k2 ?k3 ?k4 ?k5 ?kK ?kd ?ku ?_; walk_at "mine use"; (case g0 => walk_at "mine mem"); (case g1 => walk_at "mine pair"); (case g2 => walk_at "mine pair"); (case g3 => walk_at "mine pre"); (case g4 => walk_at "mine pre"); (case g5 => walk_at "mine pre"); (case g6 => walk_at "mine pre"); (case g7 => walk_at "mine pre"); (case g8 => walk_at "mine pre")); intro _ _ _ _ _ _ _ _ _ _ _ _ _ _ _ _ _; (try dsimp only))
  k_with "mine call" => (k_here; (with_reducible show wpAny _ _ (call (Value.ref 285) [Value.ref _, Value.ref _]) _ _ _); k_dflt (refine' use_cpxE (exact_product_spec _ _ _ _ _ _ _ _ _ _ _ _ _ _ _ _ _ _ _ _ _ ?g0 ?g1 ?g2 ?g3 ?g4 ?g5 ?g6 ?g7 ?g8) ?k1 ?k2 ?k3 ?k4 ?k5 ?kK ?kd ?ku ?_; walk_at "mine use"; (case g0 => walk_at "mine mem"); (case g1 => walk_at "mine pair"); (case g2 => walk_at "mine pair"); (case g3 => walk_at "mine mem"); (case g4 => walk_at "mine pair"); (case g5 => walk_at "mine pair"); (case g6 => walk_at "mine pre"); (case g7 => walk_at "mine pre"); (case g8 => walk_at "mine ok")); intro _ _ _ _ _ _ _ _ _ _ _ _; (try dsimp only))
  trivial
set_option maxRecDepth 100000 in
set_option maxHeartbeats 1000000 in
theorem law_near_spec (w : World) (mean : ExcName → Option Value) (mg mb : Str → Option Value) (news : List (Addr × Obj)) (D : Addr) (p q due d : Int) (t u : Tok) (hp : PairIn news D p q) (hd : 1 ≤ d) (hd2 : d ≤ 20) (hdue : -1 ≤ due ∧ due ≤ 1) (hn : NearP p q due d) :
    Fn w mean mg mb 351 1 [.ref D, .int due t, .int d u] news (PBool true) := by
  have hsm := near_sm hn
  have hend := near_end hn
  obtain ⟨hq1, hq2, hs, _⟩ := hn
  obtain ⟨hu1, hu2⟩ := hdue
  unfold lowF at hsm hend
  walk_at "mine start"
  k_with "mine sm" => exact sm_pow (by omega)
  k_steps
  all_goals (refine end_bool (by assumption) (by assumption) (by assumption) (by walk_at "mine sub") hend)
end
section
section
variable {prog : Program} {w : World} {A : Around} {E : Value → Shared → Prop} {s : Shared} {h₀ : Heap} {L D : Addr} {m : Str → Option Value} {news : List (Addr × Obj)} {vs : List Value} {i : Int} {rest : List Int} {c : Nat} {t u : Tok}
theorem pot_set {x : Int} {Q : Unit → Shared → Prop} (F : Fr h₀ L s.heap m) (N : News h₀ L s.heap ((D, W.listOf vs.toArray c) :: news)) (hoff : ∀ p ∈ news, p.1 ≠ D) (hi : IntsAre vs (i :: rest))
    (h : ∀ vs' h', Fr h₀ L h' m → News h₀ L h' ((D, W.listOf vs'.toArray c) :: news) → IntsAre vs' (x :: rest) → Q () { s with heap := h' }) :
    wpAny (model prog w) A (setItem (.ref D) (.int 0 t) (.int x u)) Q E s :=
  W.ksa_set F N (W.Upd.head hoff) hi (by decide) (by simp) (by decide) fun h' F' N' hi' _ _ => h _ h' F' N' hi'
theorem pot_get {k : Int} {Q : Value → Shared → Prop} (N : News h₀ L s.heap ((D, W.listOf vs.toArray c) :: news)) (hi : IntsAre vs (i :: rest)) (h0 : 0 ≤ k) (h1 : k < (rest.length : Int) + 1) (hfit : k < 2 ^ 63) (h : ∀ y t, Q (.int y t) s) : wpAny (model prog w) A (getItem (.ref D) (.int k u)) Q E s :=
  W.ksa_get N (.head _) hi h0 (by simpa using h1) hfit fun t => h _ t
theorem pot_get0 {Q : Value → Shared → Prop} (N : News h₀ L s.heap ((D, W.listOf vs.toArray c) :: news)) (hi : IntsAre vs (i :: rest)) (h : ∀ t, Q (.int i t) s) : wpAny (model prog w) A (getItem (.ref D) (.int 0 u)) Q E s :=
  W.ksa_get N (.head _) hi (by decide) (by simp) (by decide) fun t => h t
theorem pot_sub {k : Int} {value slice : PySem.Expr} {Q : Value → Shared → Prop} (N : News h₀ L s.heap ((D, W.listOf vs.toArray c) :: news)) (hi : IntsAre vs (i :: rest)) (h0 : 0 ≤ k) (h1 : k < (rest.length : Int) + 1) (hfit : k < 2 ^ 63) (h : ∀ y t, Q (.int y t) s)
    (hs : subscripted slice false (.ref D) (.int k u) = operate [.ref D, .int k u] (getItem (.ref D) (.int k u)) := by with_unfolding_all rfl) : wpAny (model prog w) A (subscriptTail value slice (.ref D) (.int k u)) Q E s :=
  W.ksa_sub N (.head _) hi h0 (by simpa using h1) hfit (fun t => h _ t) hs
theorem pot_sub0 {value slice : PySem.Expr} {Q : Value → Shared → Prop} (N : News h₀ L s.heap ((D, W.listOf vs.toArray c) :: news)) (hi : IntsAre vs (i :: rest)) (h : ∀ t, Q (.int i t) s)
    (hs : subscripted slice false (.ref D) (.int 0 u) = operate [.ref D, .int 0 u] (getItem (.ref D) (.int 0 u)) := by with_unfolding_all rfl) : wpAny (model prog w) A (subscriptTail value slice (.ref D) (.int 0 u)) Q E s :=
  W.ksa_sub N (.head _) hi (by decide) (by simp) (by decide) (fun t => h t) hs
theorem pot_len {Q : Value → Shared → Prop} (N : News h₀ L s.heap ((D, W.listOf vs.toArray c) :: news)) (hi : IntsAre vs (i :: rest)) (hr : rest.length ≤ 100) (h : Q (.int ((rest.length : Int) + 1) (s.toks + 1)) { s with toks := s.toks + 1 + 1 }) : wpAny (model prog w) A (call (.builtin "len") [.ref D]) Q E s := by
  have e : vs.toArray.size = rest.length + 1 := by rw [List.size_toArray, hi.length]; rfl
  have hl : s.heap.IsList D vs.toArray := ⟨_, (N _ (.head _)).1, rfl, _, rfl⟩
  exact call_len_list hl (by rw [e]; omega) (by rw [e]; exact h)
end
end
local macro_rules | `(tactic| walk_at "setItem ref int") => `(tactic| (k_here; (with_reducible show wpAny _ _ (setItem (Value.ref _) (Value.int 0 _) (Value.int _ _)) _ _ _); k_dflt (refine' pot_set ?F ?N ?hoff ?hi ?_; (case F => k_asm); (case N => with_reducible assumption); (case hoff => with_reducible assumption); (case hi => with_reducible assumption)); intro vs' h' F' N' hi'; (try k_sweep)))
local macro_rules | `(tactic| walk_at "getItem ref int") => `(tactic| (k_here; (with_reducible show wpAny _ _ (getItem (Value.ref _) (Value.int 0 _)) _ _ _); k_dflt (refine' pot_get0 ?N ?hi ?_; (case N => with_reducible assumption); (case hi => with_reducible assumption)); intro _))
local macro_rules | `(tactic| walk_at "subscriptTail") => `(tactic| (k_here; (with_reducible show wpAny _ _ (subscriptTail _ _ (Value.ref _) (Value.int _ _)) _ _ _); k_dflt (refine' pot_sub ?N ?hi ?h0 ?h1 ?h2 ?_; (case N => with_reducible assumption); (case hi => with_reducible assumption); (case h0 => omega); (case h1 => omega); (case h2 => omega)); intro _ _))
local macro_rules | `(tactic| walk_at "subscriptTail") => `(tactic| (k_here; (with_reducible show wpAny _ _ (subscriptTail _ _ (Value.ref _) (Value.int 0 _)) _ _ _); k_dflt (refine' pot_sub0 ?N ?hi ?_; (case N => with_reducible assumption); (case hi => with_reducible assumption)); intro _))
local macro_rules | `(tactic| walk_at "call builtin:len") => `(tactic| (k_here; (with_reducible show wpAny _ _ (call (Value.builtin "len") [Value.ref _]) _ _ _); k_dflt (refine' pot_len ?N ?hi ?hr ?_; (case N => with_reducible assumption); (case hi => with_reducible assumption); (case hr => with_reducible assumption))))
local macro_rules | `(tactic| walk_at "subscriptTail Name Constant ref int") => `(tactic| (k_here; (with_reducible show wpAny _ _ (subscriptTail _ _ (Value.ref _) (Value.int 0 _)) _ _ _); k_dflt (refine' pot_sub0 ?N ?hi ?_; (case N => with_reducible assumption); (case hi => with_reducible assumption)); intro _))
section
theorem words_S21 : True := by
  k_with_none
  k_with "mine call" => (k_here; (with_reducible show wpAny _ _ (call (Value.ref 54) [Value.int _ _]) _ _ _); k_dflt (refine' use_int (count_digits_spec _ _ _ _ _ _ _ ) ?k1 ?k2 ?k3 ?k4 ?k5 ?kK ?kd ?ku ?_; walk_at "mine use"); intro _ _ _ _ _; (try dsimp only))
  k_with "mine call" => (k_here; (with_reducible show wpAny _ _ (call (Value.ref 61) [Value.int _ _, Value.int _ _]) _ _ _); k_dflt (refine' use_pair (strip_zeros_spec _ _ _ _ _ _ _ _ _ ) ?k1 ?k2 ?k3 ?k4 ?k5 ?kK ?kd ?ku ?_; walk_at "mine use"); intro _ _ _ _ _ _ _ _ _ _; (try dsimp only))
  k_with "mine call" => (k_here; (with_reducible show wpAny _ _ (call (Value.ref 68) [Value.int _ _, Value.int _ _, Value.int _ _]) _ _ _); k_dflt (refine' use_pair (round_digits_spec _ _ _ _ _ _ _ _ _ _ _ ?g0 ?g1) ?k1 ?k2 ?k3 ?k4 ?k5 ?kK ?kd ?ku ?_; walk_at "mine use"; (case g0 => walk_at "mine pre"); (case g1 => walk_at "mine pre")); intro _ _ _ _ _ _ _ _ _ _; (try dsimp only))
  k_with "mine call" => (k_here; (with_reducible show wpAny _ _ (call (Value.ref 75) [Value.int _ _, Value.int _ _, Value.int _ _, Value.int _ _]) _ _ _); k_dflt (refine' use_pair (round_real_spec _ _ _ _ _ _ _ _ _ _ _ _ _ ?g0 ?g1 ?g2) ?k1 ?k2 ?k3 ?k4 ?k5 ?kK ?kd ?ku ?_; walk_at "mine use"; (case g0 => walk_at "mine pre"); (case g1 => walk_at "mine pre"); (case g2 => walk_at "mine pre")); intro _ _ _ _ _ _ _ _ _ _; (try dsimp only))
  k_with "mine call" => (k_here; (with_reducible show wpAny _ _ (call (Value.ref 117) [Value.ref _]) _ _ _); k_dflt (refine' use_int (lead_of_spec _ _ _ _ _ _ _ _ ?g0) ?k1 ?k2 ?k3 ?k4 ?k5 ?kK ?kd ?ku ?_; walk_at "mine use"; (case g0 => walk_at "mine pair")); intro _ _ _ _ _; (try dsimp only))
  k_with "mine call" => (k_here; (with_reducible show wpAny _ _ (call (Value.ref 89) [Value.ref _, Value.ref _]) _ _ _); k_dflt (refine' use_pairE (exact_mul_spec _ _ _ _ _ _ _ _ _ _ _ ?g0 ?g1 ?g2) ?k1 ?k2 ?k3 ?k4 ?k5 ?kK ?kd ?ku ?_; walk_at "mine use"; (case g0 => walk_at "mine pair"); (case g1 => walk_at "mine pair"); (case g2 => walk_at "mine ok")); intro _ _ _ _ _ _ _; (try dsimp only))
  k_with "mine call" => (k_here; (with_reducible show wpAny _ _ (call (Value.ref 96) [Value.ref _]) _ _ _); k_dflt (refine' use_pairE (real_neg_spec _ _ _ _ _ _ _ _ ?g0) ?k1 ?k2 ?k3 ?k4 ?k5 ?kK ?kd ?ku ?_; walk_at "mine use"; (case g0 => walk_at "mine pair")); intro _ _ _ _ _ _ _; (try dsimp only))
  k_with "mine call" => (k_here; (with_reducible show wpAny _ _ (call (Value.ref 313) [Value.ref _]) _ _ _); k_dflt (refine' use_pairE (halved_spec _ _ _ _ _ _ _ _ ?g0) ?k1 ?k2 ?k3 ?k4 ?k5 ?kK ?kd ?ku ?_; walk_at "mine use"; (case g0 => walk_at "mine pair")); intro _ _ _ _ _ _ _; (try dsimp only))
  k_with "mine call" => (k_here; (with_reducible show wpAny _ _ (call (Value.ref 292) [Value.int _ _]) _ _ _); k_dflt (refine' use_int (wide_top_spec _ _ _ _ _ _ _ ) ?k1 ?k2 ?k3 ?k4 ?k5 ?kK ?kd ?ku ?_; walk_at "mine use"); intro _ _ _ _ _; (try dsimp only))
  k_with "mine call" => (k_here; (with_reducible show wpAny _ _ (call (Value.ref 82) [Value.ref _, Value.ref _]) _ _ _); k_dflt (refine' use_pair (exact_add_spec _ _ _ _ _ _ _ _ _ _ _ ?g0 ?g1 ?g2) ?k1 ?k2 ?k3 ?k4 ?k5 ?kK ?kd ?ku ?_; walk_at "mine use"; (case g0 => walk_at "mine pair"); (case g1 => walk_at "mine pair"); (case g2 => walk_at "mine pre")); intro _ _ _ _ _ _ _ _ _ _; (try dsimp only))
  k_with "mine call" => (k_here; (with_reducible show wpAny _ _ (call (Value.ref 124) [Value.ref _, Value.int _ _]) _ _ _); k_dflt (refine' use_int (places_for_spec _ _ _ _ _ _ _ _ _ _ ?g0) ?k1 ?k2 ?k3 ?k4 ?k5 ?kK ?kd ?ku ?_; walk_at "mine use"; (case g0 => walk_at "mine pair")); intro _ _ _ _ _; (try dsimp only))
  k_with "mine call" => (k_here; (with_reducible show wpAny _ _ (call (Value.ref 229) [Value.ref _, Value.int _ _]) _ _ _); k_dflt (refine' use_bool (is_tiny_spec _ _ _ _ _ _ _ _ _ _ ?g0) ?k1 ?k2 ?k3 ?k4 ?k5 ?kK ?kd ?ku ?_; walk_at "mine use"; (case g0 => walk_at "mine pair")); intro _ _ _ _; (try dsimp only))
  k_with "mine call" => (k_here; (with_reducible show wpAny _ _ (call (Value.ref 131) [Value.ref _, Value.int _ _]) _ _ _); k_dflt (refine' use_int (fixed_spec _ _ _ _ _ _ _ _ _ _ ?g0 ?g1 ?g2 ?g3) ?k1 ?k2 ?k3 ?k4 ?k5 ?kK ?kd ?ku ?_; walk_at "mine use"; (case g0 => walk_at "mine pair"); (case g1 => walk_at "mine pre"); (case g2 => walk_at "mine pre"); (case g3 => walk_at "mine ok")); intro _ _ _ _ _; (try dsimp only))
  k_with "mine call" => (k_here; (with_reducible show wpAny _ _ (call (Value.ref 306) [Value.ref _]) _ _ _); k_dflt (refine' use_bool (is_nought_spec _ _ _ _ _ _ _ _ _ _ _ _ _ ?g0 ?g1 ?g2) ?k1 ?k2 ?k3 ?k4 ?k5 ?kK ?kd ?ku ?_; walk_at "mine use"; (case g0 => walk_at "mine mem"); (case g1 => walk_at "mine pair"); (case g2 => walk_at "mine pair")); intro _ _ _ _; (try dsimp only))
  k_with "mine call" => (k_here; (with_reducible show wpAny _ _ (call (Value.ref 201) [Value.ref _]) _ _ _); k_dflt (refine' use_none (check_positive_spec _ _ _ _ _ _ _ _ ?g0 ?g1) ?k1 ?k2 ?k3 ?k4 ?k5 ?kK ?kd ?ku ?_; walk_at "mine use"; (case g0 => walk_at "mine pair"); (case g1 => walk_at "mine pre")); intro _ _ _ _; (try dsimp only))
  k_with "mine call" => (k_here; (with_reducible show wpAny _ _ (call (Value.ref 145) [Value.int _ _, Value.int _ _, Value.int _ _]) _ _ _); k_dflt (refine' use_int (inverse_series_spec _ _ _ _ _ _ _ _ _ _ _ ?g0 ?g1 ?g2 ?g3) ?k1 ?k2 ?k3 ?k4 ?k5 ?kK ?kd ?ku ?_; walk_at "mine use"; (case g0 => walk_at "mine pre"); (case g1 => walk_at "mine pre"); (case g2 => walk_at "mine pre"); (case g3 => walk_at "mine pre")); intro _ _ _ _ _; (try dsimp only))
  k_with "mine call" => (k_here; (with_reducible show wpAny _ _ (call (Value.ref 152) [Value.int _ _]) _ _ _); k_dflt (refine' use_intR (log_of_ten_spec _ _ _ _ _ _ _ ?g0 ?g1) ?k1 ?k2 ?k3 ?k4 ?k5 ?kK ?kd ?ku ?_; walk_at "mine use"; (case g0 => walk_at "mine pre"); (case g1 => walk_at "mine pre")); intro _ _ _ _ _ _ _; (try dsimp only))
  k_with "mine call" => (k_here; (with_reducible show wpAny _ _ (call (Value.ref 159) [Value.int _ _]) _ _ _); k_dflt (refine' use_int (half_turn_spec _ _ _ _ _ _ _ ?g0 ?g1) ?k1 ?k2 ?k3 ?k4 ?k5 ?kK ?kd ?ku ?_; walk_at "mine use"; (case g0 => walk_at "mine pre"); (case g1 => walk_at "mine pre")); intro _ _ _ _ _; (try dsimp only))
  k_with "mine call" => (k_here; (with_reducible show wpAny _ _ (call (Value.ref 215) [Value.int _ _, Value.int _ _, Value.int _ _]) _ _ _); k_dflt (refine' use_intR (wave_fixed_spec _ _ _ _ _ _ _ _ _ _ _ ?g0 ?g1 ?g2 ?g3) ?k1 ?k2 ?k3 ?k4 ?k5 ?kK ?kd ?ku ?_; walk_at "mine use"; (case g0 => walk_at "mine pre"); (case g1 => walk_at "mine pre"); (case g2 => walk_at "mine pre"); (case g3 => walk_at "mine pre")); intro _ _ _ _ _ _ _; (try dsimp only))
  k_with "mine call" => (k_here; (with_reducible show wpAny _ _ (call (Value.ref 187) [Value.ref _, Value.int _ _, Value.int _ _]) _ _ _); k_dflt (refine' use_pairE (exp_real_spec _ _ _ _ _ _ _ _ _ _ _ ?g0) ?k1 ?k2 ?k3 ?k4 ?k5 ?kK ?kd ?ku ?_; walk_at "mine use"; (case g0 => walk_at "mine pair")); intro _ _ _ _ _ _ _; (try dsimp only))
  k_with "mine call" => (k_here; (with_reducible show wpAny _ _ (call (Value.ref 208) [Value.ref _, Value.int _ _, Value.int _ _]) _ _ _); k_dflt (refine' use_pairE (log_real_spec _ _ _ _ _ _ _ _ _ _ ?g0 ?g1 ?g2 ?g3) ?k1 ?k2 ?k3 ?k4 ?k5 ?kK ?kd ?ku ?_; walk_at "mine use"; (case g0 => walk_at "mine pair"); (case g1 => walk_at "mine pre"); (case g2 => walk_at "mine pre"); (case g3 => walk_at "mine pre")); intro _ _ _ _ _ _ _; (try dsimp only))
  k_with "mine call" => (k_here; (with_reducible show wpAny _ _ (call (Value.ref 264) [Value.ref _, Value.int _ _, Value.int _ _, Value.int _ _]) _ _ _); k_dflt (refine' use_pair (straight_angle_spec _ _ _ _ _ _ _ _ _ _ _ _ _ _ ?g0 ?g1 ?g2 ?g3 ?g4 ?g5 ?g6) ?k1 ?k2 ?k3 ?k4 ?k5 ?kK ?kd ?ku ?_; walk_at "mine use"; (case g0 => walk_at "mine pair"); (case g1 => walk_at "mine pre"); (case g2 => walk_at "mine pre"); (case g3 => walk_at "mine pre"); (case g4 => walk_at "mine pre"); (case g5 => walk_at "mine pre"); (case g6 => walk_at "mine pre")); intro _ _ _ _ _ _ _ _ _ _; (try dsimp only))
  k_with "mine call" => (k_here; (with_reducible show wpAny _ _ (call (Value.ref 299) [Value.ref _]) _ _ _); k_dflt (refine' use_pairE (size_square_spec _ _ _ _ _ _ _ _ _ _ _ _ ?g0 ?g1 ?g2 ?g3) ?k1 ?k2 ?k3 ?k4 ?k5 ?kK ?kd ?ku ?_; walk_at "mine use"; (case g0 => walk_at "mine mem"); (case g1 => walk_at "mine pair"); (case g2 => walk_at "mine pair"); (case g3 => walk_at "mine pre")); intro _ _ _ _ _ _ _; (try dsimp only))
  k_with "mine call" => (k_here; (with_reducible show wpAny _ _ (call (Value.ref 271) [Value.ref _, Value.ref _, Value.int _ _, Value.int _ _]) _ _ _); k_dflt (refine' use_pair (atan2_real_spec _ _ _ _ _ _ _ _ _ _ _ _ _ _ ?g0 ?g1 ?g2 ?g3 ?g4 ?g5 ?g6 ?g7) ?k1 ?k2 ?k3 ?k4 ?k5 ?kK ?kd ?ku ?_; walk_at "mine use"; (case g0 => walk_at "mine pair"); (case g1 => walk_at "mine pair"); (case g2 => walk_at "mine pre"); (case g3 => walk_at "mine pre"); (case g4 => walk_at "mine pre"); (case g5 => walk_at "mine pre"); (case g6 => walk_at "mine pre"); (case g7 => walk_at "mine pre")); intro _ _ _ _ _ _ _ _ _ _; (try dsimp only))
  k_with "mine call" => (k_here; (with_reducible show wpAny _ _ (call (Value.ref 278) [Value.ref _, Value.int _ _, Value.int _ _]) _ _ _); k_dflt (refine' use_cpx (round_parts_spec _ _ _ _ _ _ _ _ _ _ _ _ _ _ _ _ _ ?g0 ?g1 ?g2 ?g3 ?g4 ?g5 ?g6 ?g7) ?k1 ?k2 ?k3 ?k4 ?k5 ?kK ?kd ?ku ?_; walk_at "mine use"; (case g0 => walk_at "mine mem"); (case g1 => walk_at "mine pair"); (case g2 => walk_at "mine pair"); (case g3 => walk_at "mine pre"); (case g4 => walk_at "mine pre"); (case g5 => walk_at "mine pre"); (case g6 => walk_at "mine pre"); (case g7 => walk_at "mine pre")); intro _ _ _ _ _ _ _ _ _ _ _ _ _ _ _ _ _; (try dsimp only))
  k_with "mine call" => (k_here; (with_reducible show wpAny _ _ (call (Value.ref 327) [Value.ref _, Value.int _ _, Value.int _ _]) _ _ _); k_dflt (refine' use_cpx (log_both_spec _ _ _ _ _ _ _ _ _ _ _ _ _ _ _ _ ?g0 ?g1 ?g2 ?g3 ?g4 ?g5 ?g6 ?g7 ?g8) ?k1 ?k2 ?k3 ?k4 ?k5 ?kK ?kd ?ku ?_; walk_at "mine use"; (case g0 => walk_at "mine mem"); (case g1 => walk_at "mine pair"); (case g2 => walk_at "mine pair"); (case g3 => walk_at "mine pre"); (case g4 => walk_at "mine pre"); (case g5 => walk_at "mine pre"); (case g6 => walk_at "mine pre"); (case g7 => walk_at "mine pre"); (case g8 => walk_at "mine pre")); intro _ _ _ _ _ _ _ _ _ _ _ _ _ _ _ _ _; (try dsimp only))
  k_with "mine call" => (k_here; (with_reducible show wpAny _ _ (call (Value.ref 285) [Value.ref _, Value.ref _]) _ _ _); k_dflt (refine' use_cpxE (exact_product_spec _ _ _ _ _ _ _ _ _ _ _ _ _ _ _ _ _ _ _ _ _ ?g0 ?g1 ?g2 ?g3 ?g4 ?g5 ?g6 ?g7 ?g8) ?k1 ?k2 ?k3 ?k4 ?k5 ?kK ?kd ?ku ?_; walk_at "mine use"; (case g0 => walk_at "mine mem"); (case g1 => walk_at "mine pair"); (case g2 => walk_at "mine pair"); (case g3 => walk_at "mine mem"); (case g4 => walk_at "mine pair"); (case g5 => walk_at "mine pair"); (case g6 => walk_at "mine pre"); (case g7 => walk_at "mine pre"); (case g8 => walk_at "mine ok")); intro _ _ _ _ _ _ _ _ _ _ _ _; (try dsimp only))
  trivial
set_option maxRecDepth 100000 in
set_option maxHeartbeats 1000000 in
theorem ladle_spec (w : World) (mean : ExcName → Option Value) (mg mb : Str → Option Value) (news : List (Addr × Obj)) (D : Addr) (i many : Int) (u : Tok) (vs : List Value) (rest : List Int) (c : Nat) (hi : IntsAre vs (i :: rest)) (hr : rest.length ≤ 100) (hm : 0 < many) (h0 : 0 ≤ i) (hoff : ∀ p ∈ news, p.1 ≠ D) :
  ∀ (dp un : Nat) (gd : Option (List Code)) (cn : Str) (cs : Scope) (a : Addr) (ccd : Value) (cl : List (Str × Addr)) (outer : List Env) (A₀ : Around) (base h₀ : Heap) (L : Addr) (m : Str → Option Value) (s : Shared) (Q E : Value → Shared → Prop),
    Below A₀ base outer h₀ → Fr h₀ L s.heap m → (pre.heap_1 w.params).In h₀ → News h₀ L s.heap ((D, W.listOf vs.toArray c) :: news) → Top pre.view_1 (looseW pre.view_1 []) mean mg mb h₀ → cs.kind = .function →
    dp + 1 < recursionLimit → un + 8 * 1 < cLine →
    (∀ x t vs' h' tk', 0 ≤ x → x < many → IntsAre vs' ((i + 1) :: rest) → Fr h₀ L h' m → News h₀ L h' ((D, W.listOf vs'.toArray c) :: news) → Q (.int x t) { s with heap := h', toks := tk' }) →
    wpAny (model PySem.Challenge.rw_rh0118_01.row.prog w) (ktrTop dp un gd cn cs L a ccd cl outer) (call (.ref 344) [.ref D, .int many u]) Q E s := by
  k_fill
  intro dp un gd cn cs a ccd cl outer A₀ base h₀ L m s Q E B F X N T hk hdp hu hret
  refine wpAny_call ?_
  k_dflt ktr_enter
  k_steps
  all_goals exact hret _ _ _ _ _ (Int.fmod_nonneg_of_pos _ hm) (Int.fmod_lt_of_pos _ hm) (by with_reducible assumption) (by with_reducible assumption) (by with_reducible assumption)
end
section
theorem pot_start {vs : List Value} {ns : List Int} (h : IntsAre vs ([0] ++ List.take 30 ns)) : ∃ rest : List Int, IntsAre vs (0 :: rest) ∧ rest.length ≤ 100 := ⟨List.take 30 ns, h, by rw [List.length_take]; omega⟩
theorem news_head {h₀ h : Heap} {L : Addr} {p : Addr × Obj} {r : List (Addr × Obj)} (N : News h₀ L h (p :: r)) : News h₀ L h [p] := fun q hq => N q (by rw [List.mem_singleton.mp hq]; exact .head _)
theorem off_nil {D : Addr} : ∀ p ∈ ([] : List (Addr × Obj)), p.1 ≠ D := fun _ h => nomatch h
def lawNames : List Str := [Str.ofString "k", Str.ofString "digits", Str.ofString "m", Str.ofString "e", Str.ofString "sign", Str.ofString "rest", Str.ofString "unit", Str.ofString "exponent", Str.ofString "found", Str.ofString "due"]
/-- the law's turn ends -/
def TurnEnd (h₀ : Heap) (L D : Addr) (rest : List Int) (own : List (Addr × Obj)) (m₀ : Str → Option Value) (s₁ : Shared) (Q : Flow → Shared → Prop) : Flow → Shared → Prop :=
  W.InvPostN h₀ L (W.KstS (σ := Int × List Value) (fun c => [(D, W.listOf c.2.toArray 0)]) (fun _ => [(Str.ofString "pot", Value.ref D)]) (fun c => 0 ≤ c.1 ∧ IntsAre c.2 (c.1 :: rest)) (Str.ofString "turn") lawNames m₀ (fun _ _ => True) []) own [D] s₁ Q
theorem kst_any {σ : Type} {Led : σ → List (Addr × Obj)} {ps : σ → List (Str × Value)} {Facts : σ → Prop} {x : Str} {stored : List Str} {m₀ : Str → Option Value} {pre pre' : List Int} : W.KstS Led ps Facts x stored m₀ (fun _ _ => True) pre = W.KstS Led ps Facts x stored m₀ (fun _ _ => True) pre' := rfl
section
variable {prog : Program} {w : World} {A : Around} {E : Value → Shared → Prop} {s : Shared} {env : Env} {h₀ : Heap} {L D r : Addr} {body : List Stmt} {Q : Flow → Shared → Prop} {m₀ : Str → Option Value} {i x : Int} {rest : List Int} {vs : List Value} {t₀ u₀ v₀ : Tok}
theorem range_small (h0 : 0 ≤ x) (h1 : x < 2) : Builtin.Range.small 0 (1 + x) 1 = true ∧ Builtin.Range.rangeSize 0 (1 + x) 1 = (((1 + x).toNat : Nat) : Int) := by
  have : x = 0 ∨ x = 1 := by omega
  rcases this with rfl | rfl <;> exact ⟨by decide, by decide⟩
theorem law_loop (hh : A.handled = none) (hr : IsRange s.heap r 0 (1 + x) 1 t₀ u₀ v₀) (h0 : 0 ≤ x) (h1 : x < 2) (F : Fr h₀ L s.heap m₀) (N : News h₀ L s.heap [(D, W.listOf vs.toArray 0)]) (hi0 : 0 ≤ i) (hi : IntsAre vs (i :: rest)) (hp : m₀ (Str.ofString "pot") = some (.ref D)) (hL : env.locals = L)
    (turn : ∀ (i : Int) (vs : List Value) (k : Int) (t : Tok) (u : Str → Option Value) h tk own, 0 ≤ i → IntsAre vs (i :: rest) → (∀ p ∈ own, p.1 ≠ D) →
      Fr h₀ L h (fun y => if y = Str.ofString "turn" then some (.int k t) else W.kstB (fun z => if lawNames.contains z then u z else m₀ z) [(Str.ofString "pot", Value.ref D)] y) → News h₀ L h ((D, W.listOf vs.toArray 0) :: own) →
      wpAny (model prog w) A (execs body env) (TurnEnd h₀ L D rest own m₀ { s with heap := h, toks := tk } Q) E { s with heap := h, toks := tk })
    (done : ∀ (c : Int × List Value) (u : Str → Option Value) h tk, Fr h₀ L h (fun y => if y = Str.ofString "turn" then u y else W.kstB (fun z => if lawNames.contains z then u z else m₀ z) [(Str.ofString "pot", Value.ref D)] y) → News h₀ L h [(D, W.listOf c.2.toArray 0)] → Q .next { s with heap := h, toks := tk }) :
    wpAny (model prog w) A (pyIter (.ref r)) (fun it s₂ => LoopAtV prog w A h₀ env (Str.ofString "turn") body Q E it s₂) E s := by
  subst hL
  obtain ⟨k1, k2⟩ := range_small h0 h1
  refine W.kst_range (σ := Int × List Value) (fun c => [(D, W.listOf c.2.toArray 0)]) (fun _ => [(Str.ofString "pot", Value.ref D)]) (fun c => 0 ≤ c.1 ∧ IntsAre c.2 (c.1 :: rest)) lawNames (fun _ _ => True) (i, vs) hh hr k1 k2 F N ⟨hi0, hi⟩ ?_ True.intro ?_ ?_
  · intro p hq
    rw [List.mem_singleton.mp hq]
    exact hp
  · intro c pre k t u h tk own _ _ hoff hf _ F' N'
    exact turn c.1 c.2 k t u h tk own hf.1 hf.2 (fun p hq => hoff p hq D (by simp)) F' (by simpa using N')
  · intro c u h tk _ _ F' N'
    exact done c u h tk F' N'
theorem turn_end {own news' : List (Addr × Obj)} {m' : Str → Option Value} {s₁ : Shared} {h' : Heap} {tk : Nat} (F : Fr h₀ L h' m') (N : News h₀ L h' news') (hn : (D, W.listOf vs.toArray 0) ∈ news') (ho : ∀ p ∈ own, p ∈ news') (hi : IntsAre vs (i :: rest)) (hi0 : 0 ≤ i)
    (hp : m' (Str.ofString "pot") = some (.ref D)) (hm : ∀ z, z ≠ Str.ofString "turn" → z ≠ Str.ofString "pot" → lawNames.contains z = false → m' z = m₀ z) :
    TurnEnd h₀ L D rest own m₀ s₁ Q .next { s₁ with heap := h', toks := tk } := by
  refine W.kst_end (i, vs) F N ?_ ho rfl ⟨hi0, hi⟩ ?_ ?_ True.intro
  · intro p hq
    rw [List.mem_singleton.mp hq]
    exact hn
  · intro p hq
    rw [List.mem_singleton.mp hq]
    exact hp
  · intro z h1 h2 h3
    exact hm z h1 (h2 _ (.head _)) h3
end
theorem not_names {z : Str} (h : lawNames.contains z = false) : ¬ z ∈ lawNames := fun q => by
  rw [List.contains_iff_mem.mpr q] at h
  exact absurd h (by decide)
end
section
theorem news_swap {h₀ h : Heap} {L : Addr} {a b : Addr × Obj} {r : List (Addr × Obj)} (N : News h₀ L h (a :: b :: r)) : News h₀ L h (b :: a :: r) := fun q hq => N q (by
  rcases List.mem_cons.mp hq with rfl | hq
  · exact .tail _ (.head _)
  · rcases List.mem_cons.mp hq with rfl | hq
    · exact .head _
    · exact .tail _ (.tail _ hq))
theorem news_drop {h₀ h : Heap} {L : Addr} {p : Addr × Obj} {all r : List (Addr × Obj)} (N : News h₀ L h all) (hp : p ∈ all) (hs : ∀ q ∈ r, q ∈ all) : News h₀ L h (p :: r) := fun q hq => N q (by
  rcases List.mem_cons.mp hq with rfl | hq
  · exact hp
  · exact hs q hq)
theorem off_cons {D T : Addr} {o : Obj} {own : List (Addr × Obj)} (h : D < T) (ho : ∀ p ∈ own, p.1 ≠ D) : ∀ p ∈ (T, o) :: own, p.1 ≠ D := fun p hp => by
  rcases List.mem_cons.mp hp with rfl | hp
  · exact Nat.ne_of_gt h
  · exact ho p hp
theorem off_lt {T D : Addr} {o : Obj} {own : List (Addr × Obj)} (h : ∀ p ∈ (D, o) :: own, p.1 < T) : D < T := h _ (.head _)
def UnitRef (D : Addr) (k : Int) : Prop := (k = 0 ∧ D = 333) ∨ (k = 1 ∧ D = 334) ∨ (k = 2 ∧ D = 335) ∨ (k = 3 ∧ D = 336)
theorem units_tup {w : World} {h : Heap} (X : (pre.heap_1 w.params).In h) : IsTup h 337 #[.ref 333, .ref 334, .ref 335, .ref 336] := ⟨_, X 337 _ rfl, rfl, _, rfl⟩
theorem unit_tup {w : World} {h : Heap} {D : Addr} {k : Int} (X : (pre.heap_1 w.params).In h) (hu : UnitRef D k) : ∃ t1 t2, IsTup h D #[.int (uxF k) t1, .int (uyF k) t2] := by
  rcases hu with ⟨rfl, rfl⟩ | ⟨rfl, rfl⟩ | ⟨rfl, rfl⟩ | ⟨rfl, rfl⟩
  · exact ⟨_, _, _, X 333 _ rfl, rfl, _, rfl⟩
  · exact ⟨_, _, _, X 334 _ rfl, rfl, _, rfl⟩
  · exact ⟨_, _, _, X 335 _ rfl, rfl, _, rfl⟩
  · exact ⟨_, _, _, X 336 _ rfl, rfl, _, rfl⟩
theorem unit_is {k : Int} (h0 : 0 ≤ k) (h1 : k < 4) : UnitIs k (uxF k) (uyF k) := by
  have : k = 0 ∨ k = 1 ∨ k = 2 ∨ k = 3 := by omega
  rcases this with rfl | rfl | rfl | rfl <;> unfold UnitIs <;> decide
theorem ux_le (k : Int) : -1 ≤ uxF k ∧ uxF k ≤ 1 := by unfold uxF; split <;> (first | omega | (split <;> omega))
theorem uy_le (k : Int) : -1 ≤ uyF k ∧ uyF k ≤ 1 := by unfold uyF; split <;> (first | omega | (split <;> omega))
section
variable {prog : Program} {w : World} {A : Around} {E : Value → Shared → Prop} {s : Shared} {h₀ : Heap} {L D T : Addr} {m : Str → Option Value} {news : List (Addr × Obj)} {c : Nat} {u : Tok} {value slice : PySem.Expr} {Q : Value → Shared → Prop} {k : Int}
theorem units_at (F : Fr h₀ L s.heap m) (X : (pre.heap_1 w.params).In h₀) (h0 : 0 ≤ k) (h1 : k < 4) (h : ∀ D, UnitRef D k → Q (.ref D) s)
    (hs : subscripted slice false (.ref 337) (.int k u) = operate [.ref 337, .int k u] (getItem (.ref 337) (.int k u)) := by with_unfolding_all rfl) :
    wpAny (model prog w) A (subscriptTail value slice (.ref 337) (.int k u)) Q E s := by
  have ht := units_tup (w := w) (X.keeps F.keep)
  have : k = 0 ∨ k = 1 ∨ k = 2 ∨ k = 3 := by omega
  rcases this with rfl | rfl | rfl | rfl
  · exact item_tupleT (l := [.ref 333, .ref 334, .ref 335, .ref 336]) ht (by decide) (by decide) (j := 0) rfl rfl (h _ (.inl ⟨rfl, rfl⟩)) hs
  · exact item_tupleT (l := [.ref 333, .ref 334, .ref 335, .ref 336]) ht (by decide) (by decide) (j := 1) rfl rfl (h _ (.inr (.inl ⟨rfl, rfl⟩))) hs
  · exact item_tupleT (l := [.ref 333, .ref 334, .ref 335, .ref 336]) ht (by decide) (by decide) (j := 2) rfl rfl (h _ (.inr (.inr (.inl ⟨rfl, rfl⟩)))) hs
  · exact item_tupleT (l := [.ref 333, .ref 334, .ref 335, .ref 336]) ht (by decide) (by decide) (j := 3) rfl rfl (h _ (.inr (.inr (.inr ⟨rfl, rfl⟩)))) hs
theorem unit_at0 (hu : UnitRef D k) (F : Fr h₀ L s.heap m) (X : (pre.heap_1 w.params).In h₀) (h : ∀ t, Q (.int (uxF k) t) s)
    (hs : subscripted slice false (.ref D) (.int 0 u) = operate [.ref D, .int 0 u] (getItem (.ref D) (.int 0 u)) := by with_unfolding_all rfl) :
    wpAny (model prog w) A (subscriptTail value slice (.ref D) (.int 0 u)) Q E s := by
  obtain ⟨t1, t2, ht⟩ := unit_tup (w := w) (X.keeps F.keep) hu
  exact item_tupleT (l := [.int (uxF k) t1, .int (uyF k) t2]) ht (by decide) (by decide) (j := 0) rfl rfl (h t1) hs
theorem unit_at1 (hu : UnitRef D k) (F : Fr h₀ L s.heap m) (X : (pre.heap_1 w.params).In h₀) (h : ∀ t, Q (.int (uyF k) t) s)
    (hs : subscripted slice false (.ref D) (.int 1 u) = operate [.ref D, .int 1 u] (getItem (.ref D) (.int 1 u)) := by with_unfolding_all rfl) :
    wpAny (model prog w) A (subscriptTail value slice (.ref D) (.int 1 u)) Q E s := by
  obtain ⟨t1, t2, ht⟩ := unit_tup (w := w) (X.keeps F.keep) hu
  exact item_tupleT (l := [.int (uxF k) t1, .int (uyF k) t2]) ht (by decide) (by decide) (j := 1) rfl rfl (h t2) hs
theorem menu_at {t1 t2 t3 : Tok} (N : News h₀ L s.heap news) (hm : (T, triObj 7 3 15 t1 t2 t3 c) ∈ news) (h0 : 0 ≤ k) (h1 : k < 3) (h : ∀ d t, (d = 3 ∨ d = 7 ∨ d = 15) → Q (.int d t) s)
    (hs : subscripted slice false (.ref T) (.int k u) = operate [.ref T, .int k u] (getItem (.ref T) (.int k u)) := by with_unfolding_all rfl) :
    wpAny (model prog w) A (subscriptTail value slice (.ref T) (.int k u)) Q E s := by
  have ht : IsTup s.heap T #[.int 7 t1, .int 3 t2, .int 15 t3] := ⟨_, (N _ hm).1, rfl, c, rfl⟩
  have : k = 0 ∨ k = 1 ∨ k = 2 := by omega
  rcases this with rfl | rfl | rfl
  · exact item_tupleT (l := [.int 7 t1, .int 3 t2, .int 15 t3]) ht (by decide) (by decide) (j := 0) rfl rfl (h _ _ (.inr (.inl rfl))) hs
  · exact item_tupleT (l := [.int 7 t1, .int 3 t2, .int 15 t3]) ht (by decide) (by decide) (j := 1) rfl rfl (h _ _ (.inl rfl)) hs
  · exact item_tupleT (l := [.int 7 t1, .int 3 t2, .int 15 t3]) ht (by decide) (by decide) (j := 2) rfl rfl (h _ _ (.inr (.inr rfl))) hs
end
theorem c2c_all (w : World) (mean : ExcName → Option Value) (mg mb : Str → Option Value) (news : List (Addr × Obj)) (Zx D1 D2 Zy E1 E2 : Addr) (n n' : Nat) (k a c M e d : Int) (t u : Tok) (hz : (Zx, refsObj D1 D2 n) ∈ news) (hp : PairIn news D1 a 0) (hq : PairIn news D2 c 0) (hu : UnitIs k a c)
    (hz' : (Zy, refsObj E1 E2 n') ∈ news) (hp' : PairIn news E1 M e) (hq' : PairIn news E2 0 0) (S : Sit k M e d) :
    Fn w mean mg mb 332 8 [.ref Zx, .ref Zy, .int d t, .int 38 u] news (PCpx (NearC ((k * (M * 10 ^ e.toNat)).fmod 4) d)) := by
  by_cases h : k = 0 ∨ M = 0
  · exact c2c0_spec w mean mg mb news Zx D1 D2 Zy E1 E2 n n' k a c M e d t u hz hp hq hu hz' hp' hq' S h
  · exact c2c_spec w mean mg mb news Zx D1 D2 Zy E1 E2 n n' k a c M e d t u hz hp hq hu hz' hp' hq' S (fun q => h (.inr q)) (fun q => h (.inl q))
/-- the digits' loop of the law -/
def MI (m0 e0 m e : Int) : Prop := 0 ≤ m ∧ 0 ≤ e ∧ m * 10 ^ e.toNat = m0 * 10 ^ e0.toNat ∧ (cd m.natAbs : Int) + e ≤ 38
theorem mi_start {m e d : Int} (hd : d = 3 ∨ d = 7 ∨ d = 15) (h0 : 0 ≤ m) (h1 : m < 10 ^ (if 7 < d then 7 else d).toNat) (h2 : 0 ≤ e) (h3 : e < 31) : MI m e m e := by
  refine ⟨h0, h2, rfl, ?_⟩
  have : m < 10 ^ 7 := by
    rcases hd with rfl | rfl | rfl
    · exact Int.lt_trans h1 (by decide)
    · exact h1
    · exact h1
  have h4 : m.natAbs < 10 ^ 7 := by omega
  have := cd_le.mpr h4
  omega
theorem mi_turn {m0 e0 m e : Int} (h : MI m0 e0 m e) (hm : m ≠ 0) (hr : m.fmod 10 = 0) : MI m0 e0 (m.fdiv 10) (e + 1) := by
  obtain ⟨h0, h1, h2, h3⟩ := h
  rw [Int.fmod_eq_emod_of_nonneg _ (by omega)] at hr
  rw [Int.fdiv_eq_ediv_of_nonneg _ (by omega)]
  obtain ⟨q, rfl⟩ : ∃ q, m = q * 10 := ⟨m / 10, by omega⟩
  have e1 : q * 10 / 10 = q := by omega
  rw [e1]
  refine ⟨by omega, by omega, ?_, ?_⟩
  · rw [← h2, show (e + 1).toNat = e.toNat + 1 by (clear e1 h3 h2 h0 hr hm; omega), Int.pow_succ, Int.mul_assoc, Int.mul_comm 10]
  · have hc := cd_mul_pow (n := q.natAbs) (by omega) 1
    have e2 : (q * 10).natAbs = q.natAbs * 10 ^ 1 := by (clear hc e1 h3 h2 hm h1; omega)
    rw [e2, hc] at h3
    omega
theorem mi_meas {m : Int} (h0 : 0 ≤ m) (hm : m ≠ 0) : (m.fdiv 10).toNat < m.toNat := by
  rw [Int.fdiv_eq_ediv_of_nonneg _ (by omega)]
  omega
theorem mi_sit {k d m0 e0 m e sg : Int} (hk0 : 0 ≤ k) (hk1 : k < 4) (hd : d = 3 ∨ d = 7 ∨ d = 15) (hs : sg = 1 ∨ sg = -1) (h : MI m0 e0 m e) : Sit k (sg * m) e d := by
  refine ⟨⟨hk0, by omega⟩, hd, h.2.1, ?_⟩
  have : (sg * m).natAbs = m.natAbs := by rcases hs with rfl | rfl <;> omega
  rw [this]
  exact h.2.2.2
theorem sit_zero {k d : Int} (hk0 : 0 ≤ k) (hk1 : k < 4) (hd : d = 3 ∨ d = 7 ∨ d = 15) : Sit k 0 0 d := ⟨⟨hk0, by omega⟩, hd, by omega, by decide⟩
theorem mi_rest {k sg m0 e0 m e : Int} (h : MI m0 e0 m e) : (k * sg * m0 * 10 ^ e0.toNat).fmod 4 = (k * (sg * m * 10 ^ e.toNat)).fmod 4 := by
  rw [Int.mul_assoc sg, h.2.2.1, ← Int.mul_assoc, ← Int.mul_assoc]
theorem mi_rest0 {k sg m0 e0 m e : Int} (h : MI m0 e0 m e) (hm : m = 0) : (k * sg * m0 * 10 ^ e0.toNat).fmod 4 = (k * (0 * 10 ^ (0 : Int).toNat)).fmod 4 := by
  have := mi_rest (k := k) (sg := sg) h
  rw [this, hm]
  simp
theorem near_fst {r1 r2 d p q r s : Int} (h : NearC r1 d p q r s) (e : r2 = r1) : NearP p q (uxF r2) d := by rw [e]; exact h.1
theorem near_snd {r1 r2 d p q r s : Int} (h : NearC r1 d p q r s) (e : r2 = r1) : NearP r s (uyF r2) d := by rw [e]; exact h.2
theorem sm_kms {k sg m : Int} (hk0 : 0 ≤ k) (hk1 : k < 4) (hs : sg = 1 ∨ sg = -1) (h0 : 0 ≤ m) (h1 : m < 10 ^ 8) : Sm (k * sg * m) := by
  have : k = 0 ∨ k = 1 ∨ k = 2 ∨ k = 3 := by omega
  rcases hs with rfl | rfl <;> rcases this with rfl | rfl | rfl | rfl <;> exact sm_int (by omega) (by omega)
theorem ten_pos {j : Nat} : (0 : Int) < 10 ^ j := Int.pow_pos (by decide)
theorem m_lt {m d : Int} (hd : d = 3 ∨ d = 7 ∨ d = 15) (h1 : m < 10 ^ (if 7 < d then 7 else d).toNat) : m < 10 ^ 8 := by
  rcases hd with rfl | rfl | rfl
  · exact Int.lt_trans h1 (by decide)
  · exact Int.lt_trans h1 (by decide)
  · exact Int.lt_trans h1 (by decide)
theorem sm_kms' {k sg m d : Int} (h1 : m < 10 ^ (if 7 < d then 7 else d).toNat) (hd : d = 3 ∨ d = 7 ∨ d = 15) (h0 : 0 ≤ m) (hs : sg = 1 ∨ sg = -1) (hk0 : 0 ≤ k) (hk1 : k < 4) : Sm (k * sg * m) := sm_kms hk0 hk1 hs h0 (m_lt hd h1)
theorem mi_meas' {m0 e0 m e : Int} (h : MI m0 e0 m e) (hm : m ≠ 0) : (m.fdiv 10).toNat < m.toNat := mi_meas h.1 hm
theorem law_c2c (w : World) (mean : ExcName → Option Value) (mg mb : Str → Option Value) (news : List (Addr × Obj)) (D Zx D1 D2 Zy E1 E2 : Addr) (n n' : Nat) (k M e d : Int) (t u : Tok) (hr : UnitRef D k) (hk : 0 ≤ k) (hk2 : k < 4) (hz : (Zx, refsObj D1 D2 n) ∈ news) (hp : PairIn news D1 (uxF k) 0) (hq : PairIn news D2 (uyF k) 0)
    (hz' : (Zy, refsObj E1 E2 n') ∈ news) (hp' : PairIn news E1 M e) (hq' : PairIn news E2 0 0) (S : Sit k M e d) :
    Fn w mean mg mb 332 8 [.ref Zx, .ref Zy, .int d t, .int 38 u] news (PCpx (NearC ((k * (M * 10 ^ e.toNat)).fmod 4) d)) :=
  c2c_all w mean mg mb news Zx D1 D2 Zy E1 E2 n n' k (uxF k) (uyF k) M e d t u hz hp hq (unit_is hk hk2) hz' hp' hq' S
end
section
theorem law_holds.tw926570990666696690 : True := trivial
theorem law_holds.tw6121542094398034961 : True := trivial
theorem law_holds.tw9013377322688217293 : True := trivial
theorem law_holds.tw13766487248619392586 : True := trivial
theorem law_holds.tw8957123355933967898 : True := trivial
theorem law_holds.tw12780804625047726367 : True := trivial
theorem law_holds.tw718173064312146323 : True := trivial
theorem law_holds.tw16614716721108272449 : True := trivial
theorem law_holds.tw13709617746848070560 : True := trivial
theorem law_holds.tw602461330855297101 : True := trivial
theorem law_holds.tw18326849912455186884 : True := trivial
theorem law_holds.tw12831907817818079685 : True := trivial
theorem law_holds.tw17499823404086765753 : True := trivial
theorem law_holds.tw15544829507116839252 : True := trivial
theorem law_holds.tw16836969012518115619 : True := trivial
theorem law_holds.tw10817052189556005596 : True := trivial
theorem law_holds.tw3438298445031660282 : True := trivial
theorem law_holds.tw3426384778480675251 : True := trivial
theorem law_holds.tw2387193687640843687 : True := trivial
theorem law_holds.tw4781243967656130014 : True := trivial
theorem law_holds.tw4441770287765753910 : True := trivial
theorem law_holds.tw8652346329174877282 : True := trivial
theorem law_holds.tw12116493165278983582 : True := trivial
theorem law_holds.tw545109181885906688 : True := trivial
theorem law_holds.tw12115171985352901274 : True := trivial
theorem law_holds.tw17713402740875732926 : True := trivial
theorem law_holds.tw724200737284857819 : True := trivial
theorem law_holds.tw7221428835167493151 : True := trivial
theorem law_holds.tw11347954631545130290 : True := trivial
theorem law_holds.tw8984712037535005518 : True := trivial
theorem law_holds.tw7185456241796803578 : True := trivial
theorem law_holds.tw3776956092104397036 : True := trivial
theorem law_holds.tw3035144380315620824 : True := trivial
theorem law_holds.tw8970147916757833333 : True := trivial
theorem law_holds.tw9207643191828677137 : True := trivial
theorem law_holds.tw498061464947678834 : True := trivial
theorem law_holds.tw3253568177066640346 : True := trivial
theorem law_holds.tw18254337876149969668 : True := trivial
theorem law_holds.tw5506821171919863439 : True := trivial
theorem law_holds.tw6776455111828631412 : True := trivial
theorem law_holds.tw14925382992726071281 : True := trivial
theorem law_holds.tw4464252984393422682 : True := trivial
theorem law_holds.tw2503670479209048990 : True := trivial
theorem law_holds.tw6860709855171689206 : True := trivial
theorem law_holds.tw14774650325386425613 : True := trivial
theorem law_holds.tw9682718004065560343 : True := trivial
theorem law_holds.tw11100686419730198450 : True := trivial
theorem law_holds.tw10666784280354678857 : True := trivial
theorem law_holds.tw14828999820898988419 : True := trivial
theorem law_holds.tw10371022188087798493 : True := trivial
theorem law_holds.tw1414043511812021011 : True := trivial
theorem law_holds.tw653560878884961445 : True := trivial
theorem law_holds.tw2102315897755806987 : True := trivial
theorem law_holds.tw12459966957829302596 : True := trivial
theorem law_holds.tw11846676642670509255 : True := trivial
theorem law_holds.tw18090433342136740992 : True := trivial
theorem law_holds.tw16098122237329998606 : True := trivial
theorem law_holds.tw17911580528928914924 : True := trivial
theorem law_holds.tw15448297888555860652 : True := trivial
theorem law_holds.tw14390095281932903014 : True := trivial
theorem law_holds.tw3158129796062787159 : True := trivial
theorem law_holds.tw9255152265573255198 : True := trivial
theorem law_holds.tw14497384708736915567 : True := trivial
theorem law_holds.tw11625900857008200698 : True := trivial
theorem law_holds.tw10368410895845634921 : True := trivial
theorem law_holds.tw2136269947727277649 : True := trivial
theorem law_holds.tw123295346585929383 : True := trivial
theorem law_holds.tw3366817510852727610 : True := trivial
theorem law_holds.tw10028117763298573888 : True := trivial
theorem law_holds.tw6896717019858035522 : True := trivial
theorem law_holds.tw14160533322030094474 : True := trivial
theorem law_holds.tw18269650602155537469 : True := trivial
theorem law_holds.tw6499956759230125245 : True := trivial
theorem law_holds.tw8266603773606604290 : True := trivial
theorem law_holds.tw13397297893571687751 : True := trivial
theorem law_holds.tw5112083995522966620 : True := trivial
theorem law_holds.tw13780023080261437657 : True := trivial
theorem law_holds.tw16883458599210261866 : True := trivial
theorem law_holds.tw4818577856007422655 : True := trivial
theorem law_holds.tw7497986649931050792 : True := trivial
theorem law_holds.tw1670043908289496885 : True := trivial
theorem law_holds.tw15802469936163623734 : True := trivial
theorem law_holds.tw16470317323979864763 : True := trivial
theorem law_holds.tw11609493526922420660 : True := trivial
theorem law_holds.tw14983226153234331074 : True := trivial
theorem law_holds.tw10486713781251687710 : True := trivial
theorem law_holds.tw12342728606916771844 : True := trivial
theorem law_holds.tw13392613628428298086 : True := trivial
theorem law_holds.tw4889031023730116350 : True := trivial
theorem law_holds.tw3956099054510807996 : True := trivial
theorem law_holds.tw3850375180904979519 : True := trivial
theorem law_holds.tw9606376775287448836 : True := trivial
theorem law_holds.tw9849722394096787677 : True := trivial
theorem law_holds.tw1689763614830377041 : True := trivial
theorem law_holds.tw575232530192455986 : True := trivial
theorem law_holds.tw15014403891855920072 : True := trivial
theorem law_holds.tw12223724995276690173 : True := trivial
theorem law_holds.tw11484002064277903863 : True := trivial
theorem law_holds.tw6159533029260741167 : True := trivial
theorem law_holds.tw13182730311906835528 : True := trivial
theorem law_holds.tw7910590604623066228 : True := trivial
theorem law_holds.tw3910120701321347557 : True := trivial
theorem law_holds.tw8441880690091102137 : True := trivial
theorem law_holds.tw3186734533307500241 : True := trivial
theorem law_holds.tw1385162719727133579 : True := trivial
theorem law_holds.tw8634839017697508684 : True := trivial
theorem law_holds.tw2075624079617657780 : True := trivial
theorem law_holds.tw11098625913536864229 : True := trivial
theorem law_holds.tw9168033884955339765 : True := trivial
theorem law_holds.tw12134408205421670959 : True := trivial
theorem law_holds.tw10024239376800412576 : True := trivial
theorem law_holds.tw2907507879108658156 : True := trivial
theorem law_holds.tw11097350217990362986 : True := trivial
theorem law_holds.tw2578278018795888234 : True := trivial
theorem law_holds.tw14545874151571354728 : True := trivial
theorem law_holds.tw6765152471904792315 : True := trivial
theorem law_holds.tw16406091861079842607 : True := trivial
theorem law_holds.tw14326059299131336239 : True := trivial
theorem law_holds.tw8785698371604719795 : True := trivial
theorem law_holds.tw8191475993861738794 : True := trivial
theorem law_holds.tw11966672015165255308 : True := trivial
theorem law_holds.tw1989176631692091739 : True := trivial
theorem law_holds.tw8249079356659094474 : True := trivial
theorem law_holds.tw3882201998751590657 : True := trivial
theorem law_holds.tw4614512636035447770 : True := trivial
theorem law_holds.tw13800757232730249582 : True := trivial
theorem law_holds.tw10264638600885302300 : True := trivial
theorem law_holds.tw3756308257209627903 : True := trivial
theorem law_holds.tw4593294709026258786 : True := trivial
theorem law_holds.tw2269544990204364226 : True := trivial
theorem law_holds.tw8909828626151137519 : True := trivial
theorem law_holds.tw3850404396616230974 : True := trivial
theorem law_holds.tw15006436103509636135 : True := trivial
theorem law_holds.tw14883556706271630602 : True := trivial
theorem law_holds.tw5731563423909890137 : True := trivial
theorem law_holds.tw8666519363043736892 : True := trivial
theorem law_holds.tw907578622648922086 : True := trivial
theorem law_holds.tw7636989558263936852 : True := trivial
theorem law_holds.tw6869992995446874880 : True := trivial
theorem law_holds.tw8553002610548859549 : True := trivial
theorem law_holds.tw13402424001964919149 : True := trivial
theorem law_holds.tw17942709131360195518 : True := trivial
theorem law_holds.tw3850334171643177529 : True := trivial
theorem law_holds.tw11182679623053108816 : True := trivial
theorem law_holds.tw12626328134170644701 : True := trivial
theorem law_holds.tw6564709946809587534 : True := trivial
theorem law_holds.tw13028658284911697911 : True := trivial
theorem law_holds.tw1622690429015379626 : True := trivial
theorem law_holds.tw9288214680346807717 : True := trivial
theorem law_holds.tw8176227357466254829 : True := trivial
theorem law_holds.tw6317479115527610633 : True := trivial
theorem law_holds.tw2295933128562542503 : True := trivial
theorem law_holds.tw9069877914133315304 : True := trivial
theorem law_holds.tw4439653461905209652 : True := trivial
theorem law_holds.tw7407239408455114201 : True := trivial
theorem law_holds.tw2856731137302751260 : True := trivial
theorem law_holds.tw18340598423539479173 : True := trivial
theorem law_holds.tw8330938851228082562 : True := trivial
theorem law_holds.tw4515466672771955728 : True := trivial
theorem law_holds.tw4992725456586698614 : True := trivial
theorem law_holds.tw13220211186989608806 : True := trivial
theorem law_holds.tw1928719863018725356 : True := trivial
theorem law_holds.tw17253903310271361901 : True := trivial
theorem law_holds.tw8857742495270377987 : True := trivial
theorem law_holds.tw699380112222796084 : True := trivial
theorem law_holds.tw1762888911704233025 : True := trivial
theorem law_holds.tw6667284449218939238 : True := trivial
theorem law_holds.tw9875236377963488844 : True := trivial
theorem law_holds.tw14991590004735058009 : True := trivial
theorem law_holds.tw14596297492920191028 : True := trivial
theorem law_holds.tw8720880381367431298 : True := trivial
theorem law_holds.tw2558664710541493025 : True := trivial
theorem law_holds.tw15150646450996357022 : True := trivial
theorem law_holds.tw18261290160731607033 : True := trivial
theorem law_holds.tw11223184984439025696 : True := trivial
theorem law_holds.tw15154110283740273250 : True := trivial
theorem law_holds.tw1186782194237197914 : True := trivial
theorem law_holds.tw4370086069003782432 : True := trivial
theorem law_holds.tw13478230802861573701 : True := trivial
theorem law_holds.tw10465528174321978529 : True := trivial
theorem law_holds.tw15617896438947887921 : True := trivial
theorem law_holds.tw17237755526102222789 : True := trivial
theorem law_holds.tw4503035019201841076 : True := trivial
theorem law_holds.tw15527639110640922598 : True := trivial
theorem law_holds.tw17253691774821329096 : True := trivial
theorem law_holds.tw7696488724909661519 : True := trivial
theorem law_holds.tw17993387198741990920 : True := trivial
theorem law_holds.tw6911747868599837429 : True := trivial
theorem law_holds.tw4329158554759489670 : True := trivial
theorem law_holds.tw1341266762083198811 : True := trivial
theorem law_holds.tw11803358882649189518 : True := trivial
theorem law_holds.tw15609566024721092083 : True := trivial
theorem law_holds.tw6861490101519172755 : True := trivial
theorem law_holds.tw8369274380968253667 : True := trivial
theorem law_holds.tw8549365171731915398 : True := trivial
theorem law_holds.tw445335354869643106 : True := trivial
theorem law_holds.tw10609929442622069884 : True := trivial
theorem law_holds.tw2152083551845799040 : True := trivial
theorem law_holds.tw11677100312832694166 : True := trivial
theorem law_holds.tw2055734563569237896 : True := trivial
theorem law_holds.tw3253820488102484341 : True := trivial
theorem law_holds.tw11924911360389889469 : True := trivial
theorem law_holds.tw11126432536435168541 : True := trivial
theorem law_holds.tw16106779387088534511 : True := trivial
theorem law_holds.tw3682559726232862161 : True := trivial
theorem law_holds.tw15162217921772873613 : True := trivial
theorem law_holds.tw1767730674963353768 : True := trivial
theorem law_holds.tw11690447701083486646 : True := trivial
theorem law_holds.tw6727219029552735585 : True := trivial
theorem law_holds.tw8514742172934523775 : True := trivial
theorem law_holds.tw11289095316329951393 : True := trivial
theorem law_holds.tw17974257514489008736 : True := trivial
theorem law_holds.tw2842810181116790245 : True := trivial
theorem law_holds.tw5274592661964301406 : True := trivial
theorem law_holds.tw1819975233463548508 : True := trivial
theorem law_holds.tw455179833554555240 : True := trivial
theorem law_holds.tw14051398506283589457 : True := trivial
theorem law_holds.tw10296202853966499060 : True := trivial
theorem law_holds.tw2124134355350193313 : True := trivial
theorem law_holds.tw11544315989524547432 : True := trivial
theorem law_holds.tw16563099163409725306 : True := trivial
theorem law_holds.tw8763168800255643514 : True := trivial
theorem law_holds.tw1035469204868569938 : True := trivial
theorem law_holds.tw12296726922439171297 : True := trivial
theorem law_holds.tw15883345262158282383 : True := trivial
theorem law_holds.tw11097158420108258118 : True := trivial
theorem law_holds.tw745255978533919091 : True := trivial
theorem law_holds.tw10876394233666535175 : True := trivial
theorem law_holds.tw16760957895259694429 : True := trivial
theorem law_holds.tw16381176275627223697 : True := trivial
theorem law_holds.tw16947615914383616782 : True := trivial
theorem law_holds.tw5920216800500632969 : True := trivial
theorem law_holds.tw12977093529070104392 : True := trivial
theorem law_holds.tw4524032621918665186 : True := trivial
theorem law_holds.tw6265907326580845545 : True := trivial
theorem law_holds.tw13250372474279835810 : True := trivial
theorem law_holds.tw12419048959643632839 : True := trivial
theorem law_holds.tw12456547296908542839 : True := trivial
theorem law_holds.tw18006792725990754497 : True := trivial
theorem law_holds.tw8417186165934385351 : True := trivial
theorem law_holds.tw5455921660152230842 : True := trivial
theorem law_holds.tw11426015686315989412 : True := trivial
theorem law_holds.tw2090888555730037645 : True := trivial
theorem law_holds.tw9634471323475708679 : True := trivial
theorem law_holds.tw13958071646730322851 : True := trivial
theorem law_holds.tw16009327648451700120 : True := trivial
theorem law_holds.tw607667584577438428 : True := trivial
theorem law_holds.tw2139172203440323022 : True := trivial
theorem law_holds.tw3049941959672503198 : True := trivial
theorem law_holds.tw8570087061310353148 : True := trivial
theorem law_holds.tw7472407996622490835 : True := trivial
theorem law_holds.tw10968802771074238664 : True := trivial
theorem law_holds.tw10442559174759676424 : True := trivial
theorem law_holds.tw3005452535816212104 : True := trivial
theorem law_holds.tw10812634152524527747 : True := trivial
theorem law_holds.tw1973129929022764952 : True := trivial
theorem law_holds.tw5364902710198789758 : True := trivial
theorem law_holds.tw14377833709258309704 : True := trivial
theorem law_holds.tw18388893480867403737 : True := trivial
theorem law_holds.tw6881874429007886204 : True := trivial
theorem law_holds.tw18430954121086234272 : True := trivial
theorem law_holds.tw12622292602297523153 : True := trivial
theorem law_holds.tw17028624522117568015 : True := trivial
theorem law_holds.tw3494445600050047599 : True := trivial
theorem law_holds.tw4146061822495498468 : True := trivial
theorem law_holds.tw1791086108937442324 : True := trivial
theorem law_holds.tw2887050238494874643 : True := trivial
theorem law_holds.tw7769649832755249146 : True := trivial
theorem law_holds.tw1909877003179415225 : True := trivial
theorem law_holds.tw2446358144275080391 : True := trivial
theorem law_holds.tw16720094985154256693 : True := trivial
theorem law_holds.tw9992725586745946429 : True := trivial
theorem law_holds.tw13956741780833797525 : True := trivial
theorem law_holds.tw15352839923633478061 : True := trivial
theorem law_holds.tw631266038723830076 : True := trivial
theorem law_holds.tw6507877686720480950 : True := trivial
theorem law_holds.tw18234560199702728603 : True := trivial
theorem law_holds.tw4916342969005030805 : True := trivial
theorem law_holds.tw10242277825702978295 : True := trivial
theorem law_holds.tw5640673133297012132 : True := trivial
theorem law_holds.tw12476058986133298565 : True := trivial
theorem law_holds.tw447027507633508388 : True := trivial
theorem law_holds.tw16461882675039125421 : True := trivial
theorem law_holds.tw16893121556090616931 : True := trivial
theorem law_holds.tw1377309892636839040 : True := trivial
theorem law_holds.tw10007947361888340627 : True := trivial
theorem law_holds.tw1285599515219305098 : True := trivial
theorem law_holds.tw10841264019214440115 : True := trivial
theorem law_holds.tw5212653520564569363 : True := trivial
theorem law_holds.tw12732824653754844360 : True := trivial
theorem law_holds.tw4581845663705801772 : True := trivial
theorem law_holds.tw15661869461025623997 : True := trivial
theorem law_holds.tw8285764192309689115 : True := trivial
theorem law_holds.tw13431030151845061361 : True := trivial
theorem law_holds.tw4037582482628031876 : True := trivial
theorem law_holds.tw16805829885119392726 : True := trivial
theorem law_holds.tw14988988175077273356 : True := trivial
theorem law_holds.tw15191720212996534143 : True := trivial
theorem law_holds.tw17027635718292003107 : True := trivial
theorem law_holds.tw4273555757443719353 : True := trivial
theorem law_holds.tw14571795756577361901 : True := trivial
theorem law_holds.tw7304591109411159013 : True := trivial
theorem law_holds.tw9184033795430018204 : True := trivial
theorem law_holds.tw2143268655074302082 : True := trivial
theorem law_holds.tw14997073306097389879 : True := trivial
theorem law_holds.tw8835965917227929528 : True := trivial
theorem law_holds.tw14498155544194170393 : True := trivial
theorem law_holds.tw179590077315354965 : True := trivial
theorem law_holds.tw17180001009569633970 : True := trivial
theorem law_holds.tw14822640431511872941 : True := trivial
theorem law_holds.tw16099233806120587224 : True := trivial
theorem law_holds.tw10209896874158180831 : True := trivial
theorem law_holds.tw11871264284315337871 : True := trivial
theorem law_holds.tw14180322973582914007 : True := trivial
theorem law_holds.tw4607488874634516573 : True := trivial
theorem law_holds.tw15452448965706171373 : True := trivial
theorem law_holds.tw6894629897728501357 : True := trivial
theorem law_holds.tw14621789764659903892 : True := trivial
theorem law_holds.tw8470278432993228654 : True := trivial
theorem law_holds.tw3664405165922398054 : True := trivial
theorem law_holds.tw13278591279280680027 : True := trivial
theorem law_holds.tw3940814190209492080 : True := trivial
theorem law_holds.tw1724926542741425601 : True := trivial
theorem law_holds.tw3437919841840417490 : True := trivial
theorem law_holds.tw13536078969547264968 : True := trivial
theorem law_holds.tw6859950883120092359 : True := trivial
theorem law_holds.tw11539556534233449701 : True := trivial
theorem law_holds.tw3900778236709352535 : True := trivial
theorem words_LAW : True := by
  k_with_none
  k_with "mine call" => (k_here; (with_reducible show wpAny _ _ (call (Value.ref 54) [Value.int _ _]) _ _ _); k_dflt (refine' use_int (count_digits_spec _ _ _ _ _ _ _ ) ?k1 ?k2 ?k3 ?k4 ?k5 ?kK ?kd ?ku ?_; walk_at "mine use"); intro _ _ _ _ _; (try dsimp only))
  k_with "mine call" => (k_here; (with_reducible show wpAny _ _ (call (Value.ref 61) [Value.int _ _, Value.int _ _]) _ _ _); k_dflt (refine' use_pair (strip_zeros_spec _ _ _ _ _ _ _ _ _ ) ?k1 ?k2 ?k3 ?k4 ?k5 ?kK ?kd ?ku ?_; walk_at "mine use"); intro _ _ _ _ _ _ _ _ _ _; (try dsimp only))
  k_with "mine call" => (k_here; (with_reducible show wpAny _ _ (call (Value.ref 68) [Value.int _ _, Value.int _ _, Value.int _ _]) _ _ _); k_dflt (refine' use_pair (round_digits_spec _ _ _ _ _ _ _ _ _ _ _ ?g0 ?g1) ?k1 ?k2 ?k3 ?k4 ?k5 ?kK ?kd ?ku ?_; walk_at "mine use"; (case g0 => walk_at "mine pre"); (case g1 => walk_at "mine pre")); intro _ _ _ _ _ _ _ _ _ _; (try dsimp only))
  k_with "mine call" => (k_here; (with_reducible show wpAny _ _ (call (Value.ref 75) [Value.int _ _, Value.int _ _, Value.int _ _, Value.int _ _]) _ _ _); k_dflt (refine' use_pair (round_real_spec _ _ _ _ _ _ _ _ _ _ _ _ _ ?g0 ?g1 ?g2) ?k1 ?k2 ?k3 ?k4 ?k5 ?kK ?kd ?ku ?_; walk_at "mine use"; (case g0 => walk_at "mine pre"); (case g1 => walk_at "mine pre"); (case g2 => walk_at "mine pre")); intro _ _ _ _ _ _ _ _ _ _; (try dsimp only))
  k_with "mine call" => (k_here; (with_reducible show wpAny _ _ (call (Value.ref 117) [Value.ref _]) _ _ _); k_dflt (refine' use_int (lead_of_spec _ _ _ _ _ _ _ _ ?g0) ?k1 ?k2 ?k3 ?k4 ?k5 ?kK ?kd ?ku ?_; walk_at "mine use"; (case g0 => walk_at "mine pair")); intro _ _ _ _ _; (try dsimp only))
  k_with "mine call" => (k_here; (with_reducible show wpAny _ _ (call (Value.ref 89) [Value.ref _, Value.ref _]) _ _ _); k_dflt (refine' use_pairE (exact_mul_spec _ _ _ _ _ _ _ _ _ _ _ ?g0 ?g1 ?g2) ?k1 ?k2 ?k3 ?k4 ?k5 ?kK ?kd ?ku ?_; walk_at "mine use"; (case g0 => walk_at "mine pair"); (case g1 => walk_at "mine pair"); (case g2 => walk_at "mine ok")); intro _ _ _ _ _ _ _; (try dsimp only))
  k_with "mine call" => (k_here; (with_reducible show wpAny _ _ (call (Value.ref 96) [Value.ref _]) _ _ _); k_dflt (refine' use_pairE (real_neg_spec _ _ _ _ _ _ _ _ ?g0) ?k1 ?k2 ?k3 ?k4 ?k5 ?kK ?kd ?ku ?_; walk_at "mine use"; (case g0 => walk_at "mine pair")); intro _ _ _ _ _ _ _; (try dsimp only))
  k_with "mine call" => (k_here; (with_reducible show wpAny _ _ (call (Value.ref 313) [Value.ref _]) _ _ _); k_dflt (refine' use_pairE (halved_spec _ _ _ _ _ _ _ _ ?g0) ?k1 ?k2 ?k3 ?k4 ?k5 ?kK ?kd ?ku ?_; walk_at "mine use"; (case g0 => walk_at "mine pair")); intro _ _ _ _ _ _ _; (try dsimp only))
  k_with "mine call" => (k_here; (with_reducible show wpAny _ _ (call (Value.ref 292) [Value.int _ _]) _ _ _); k_dflt (refine' use_int (wide_top_spec _ _ _ _ _ _ _ ) ?k1 ?k2 ?k3 ?k4 ?k5 ?kK ?kd ?ku ?_; walk_at "mine use"); intro _ _ _ _ _; (try dsimp only))
  k_with "mine call" => (k_here; (with_reducible show wpAny _ _ (call (Value.ref 82) [Value.ref _, Value.ref _]) _ _ _); k_dflt (refine' use_pair (exact_add_spec _ _ _ _ _ _ _ _ _ _ _ ?g0 ?g1 ?g2) ?k1 ?k2 ?k3 ?k4 ?k5 ?kK ?kd ?ku ?_; walk_at "mine use"; (case g0 => walk_at "mine pair"); (case g1 => walk_at "mine pair"); (case g2 => walk_at "mine pre")); intro _ _ _ _ _ _ _ _ _ _; (try dsimp only))
  k_with "mine call" => (k_here; (with_reducible show wpAny _ _ (call (Value.ref 124) [Value.ref _, Value.int _ _]) _ _ _); k_dflt (refine' use_int (places_for_spec _ _ _ _ _ _ _ _ _ _ ?g0) ?k1 ?k2 ?k3 ?k4 ?k5 ?kK ?kd ?ku ?_; walk_at "mine use"; (case g0 => walk_at "mine pair")); intro _ _ _ _ _; (try dsimp only))
  k_with "mine call" => (k_here; (with_reducible show wpAny _ _ (call (Value.ref 229) [Value.ref _, Value.int _ _]) _ _ _); k_dflt (refine' use_bool (is_tiny_spec _ _ _ _ _ _ _ _ _ _ ?g0) ?k1 ?k2 ?k3 ?k4 ?k5 ?kK ?kd ?ku ?_; walk_at "mine use"; (case g0 => walk_at "mine pair")); intro _ _ _ _; (try dsimp only))
  k_with "mine call" => (k_here; (with_reducible show wpAny _ _ (call (Value.ref 131) [Value.ref _, Value.int _ _]) _ _ _); k_dflt (refine' use_int (fixed_spec _ _ _ _ _ _ _ _ _ _ ?g0 ?g1 ?g2 ?g3) ?k1 ?k2 ?k3 ?k4 ?k5 ?kK ?kd ?ku ?_; walk_at "mine use"; (case g0 => walk_at "mine pair"); (case g1 => walk_at "mine pre"); (case g2 => walk_at "mine pre"); (case g3 => walk_at "mine ok")); intro _ _ _ _ _; (try dsimp only))
  k_with "mine call" => (k_here; (with_reducible show wpAny _ _ (call (Value.ref 306) [Value.ref _]) _ _ _); k_dflt (refine' use_bool (is_nought_spec _ _ _ _ _ _ _ _ _ _ _ _ _ ?g0 ?g1 ?g2) ?k1 ?k2 ?k3 ?k4 ?k5 ?kK ?kd ?ku ?_; walk_at "mine use"; (case g0 => walk_at "mine mem"); (case g1 => walk_at "mine pair"); (case g2 => walk_at "mine pair")); intro _ _ _ _; (try dsimp only))
  k_with "mine call" => (k_here; (with_reducible show wpAny _ _ (call (Value.ref 201) [Value.ref _]) _ _ _); k_dflt (refine' use_none (check_positive_spec _ _ _ _ _ _ _ _ ?g0 ?g1) ?k1 ?k2 ?k3 ?k4 ?k5 ?kK ?kd ?ku ?_; walk_at "mine use"; (case g0 => walk_at "mine pair"); (case g1 => walk_at "mine pre")); intro _ _ _ _; (try dsimp only))
  k_with "mine call" => (k_here; (with_reducible show wpAny _ _ (call (Value.ref 145) [Value.int _ _, Value.int _ _, Value.int _ _]) _ _ _); k_dflt (refine' use_int (inverse_series_spec _ _ _ _ _ _ _ _ _ _ _ ?g0 ?g1 ?g2 ?g3) ?k1 ?k2 ?k3 ?k4 ?k5 ?kK ?kd ?ku ?_; walk_at "mine use"; (case g0 => walk_at "mine pre"); (case g1 => walk_at "mine pre"); (case g2 => walk_at "mine pre"); (case g3 => walk_at "mine pre")); intro _ _ _ _ _; (try dsimp only))
  k_with "mine call" => (k_here; (with_reducible show wpAny _ _ (call (Value.ref 152) [Value.int _ _]) _ _ _); k_dflt (refine' use_intR (log_of_ten_spec _ _ _ _ _ _ _ ?g0 ?g1) ?k1 ?k2 ?k3 ?k4 ?k5 ?kK ?kd ?ku ?_; walk_at "mine use"; (case g0 => walk_at "mine pre"); (case g1 => walk_at "mine pre")); intro _ _ _ _ _ _ _; (try dsimp only))
  k_with "mine call" => (k_here; (with_reducible show wpAny _ _ (call (Value.ref 159) [Value.int _ _]) _ _ _); k_dflt (refine' use_int (half_turn_spec _ _ _ _ _ _ _ ?g0 ?g1) ?k1 ?k2 ?k3 ?k4 ?k5 ?kK ?kd ?ku ?_; walk_at "mine use"; (case g0 => walk_at "mine pre"); (case g1 => walk_at "mine pre")); intro _ _ _ _ _; (try dsimp only))
  k_with "mine call" => (k_here; (with_reducible show wpAny _ _ (call (Value.ref 215) [Value.int _ _, Value.int _ _, Value.int _ _]) _ _ _); k_dflt (refine' use_intR (wave_fixed_spec _ _ _ _ _ _ _ _ _ _ _ ?g0 ?g1 ?g2 ?g3) ?k1 ?k2 ?k3 ?k4 ?k5 ?kK ?kd ?ku ?_; walk_at "mine use"; (case g0 => walk_at "mine pre"); (case g1 => walk_at "mine pre"); (case g2 => walk_at "mine pre"); (case g3 => walk_at "mine pre")); intro _ _ _ _ _ _ _; (try dsimp only))
  k_with "mine call" => (k_here; (with_reducible show wpAny _ _ (call (Value.ref 187) [Value.ref _, Value.int _ _, Value.int _ _]) _ _ _); k_dflt (refine' use_pairE (exp_real_spec _ _ _ _ _ _ _ _ _ _ _ ?g0) ?k1 ?k2 ?k3 ?k4 ?k5 ?kK ?kd ?ku ?_; walk_at "mine use"; (case g0 => walk_at "mine pair")); intro _ _ _ _ _ _ _; (try dsimp only))
  k_with "mine call" => (k_here; (with_reducible show wpAny _ _ (call (Value.ref 208) [Value.ref _, Value.int _ _, Value.int _ _]) _ _ _); k_dflt (refine' use_pairE (log_real_spec _ _ _ _ _ _ _ _ _ _ ?g0 ?g1 ?g2 ?g3) ?k1 ?k2 ?k3 ?k4 ?k5 ?kK ?kd ?ku ?_; walk_at "mine use"; (case g0 => walk_at "mine pair"); (case g1 => walk_at "mine pre"); (case g2 => walk_at "mine pre"); (case g3 => walk_at "mine pre")); intro _ _ _ _ _ _ _; (try dsimp only))
  k_with "mine call" => (k_here; (with_reducible show wpAny _ _ (call (Value.ref 264) [Value.ref _, Value.int _ _, Value.int _ _, Value.int _ _]) _ _ _); k_dflt (refine' use_pair (straight_angle_spec _ _ _ _ _ _ _ _ _ _ _ _ _ _ ?g0 ?g1 ?g2 ?g3 ?g4 ?g5 ?g6) ?k1 ?k2 ?k3 ?k4 ?k5 ?kK ?kd ?ku ?_; walk_at "mine use"; (case g0 => walk_at "mine pair"); (case g1 => walk_at "mine pre"); (case g2 => walk_at "mine pre"); (case g3 => walk_at "mine pre"); (case g4 => walk_at "mine pre"); (case g5 => walk_at "mine pre"); (case g6 => walk_at "mine pre")); intro _ _ _ _ _ _ _ _ _ _; (try dsimp only))
  k_with "mine call" => (k_here; (with_reducible show wpAny _ _ (call (Value.ref 299) [Value.ref _]) _ _ _); k_dflt (refine' use_pairE (size_square_spec _ _ _ _ _ _ _ _ _ _ _ _ ?g0 ?g1 ?g2 ?g3) ?k1 ?k2 ?k3 ?k4 ?k5 ?kK ?kd ?ku ?_; walk_at "mine use"; (case g0 => walk_at "mine mem"); (case g1 => walk_at "mine pair"); (case g2 => walk_at "mine pair"); (case g3 => walk_at "mine pre")); intro _ _ _ _ _ _ _; (try dsimp only))
  k_with "mine call" => (k_here; (with_reducible show wpAny _ _ (call (Value.ref 271) [Value.ref _, Value.ref _, Value.int _ _, Value.int _ _]) _ _ _); k_dflt (refine' use_pair (atan2_real_spec _ _ _ _ _ _ _ _ _ _ _ _ _ _ ?g0 ?g1 ?g2 ?g3 ?g4 ?g5 ?g6 ?g7) ?k1 ?k2 ?k3 ?k4 ?k5 ?kK ?kd ?ku ?_; walk_at "mine use"; (case g0 => walk_at "mine pair"); (case g1 => walk_at "mine pair"); (case g2 => walk_at "mine pre"); (case g3 => walk_at "mine pre"); (case g4 => walk_at "mine pre"); (case g5 => walk_at "mine pre"); (case g6 => walk_at "mine pre"); (case g7 => walk_at "mine pre")); intro _ _ _ _ _ _ _ _ _ _; (try dsimp only))
  k_with "mine call" => (k_here; (with_reducible show wpAny _ _ (call (Value.ref 278) [Value.ref _, Value.int _ _, Value.int _ _]) _ _ _); k_dflt (refine' use_cpx (round_parts_spec _ _ _ _ _ _ _ _ _ _ _ _ _ _ _ _ _ ?g0 ?g1 ?g2 ?g3 ?g4 ?g5 ?g6 ?g7) ?k1 ?k2 ?k3 ?k4 ?k5 ?kK ?kd ?ku ?_; walk_at "mine use"; (case g0 => walk_at "mine mem"); (case g1 => walk_at "mine pair"); (case g2 => walk_at "mine pair"); (case g3 => walk_at "mine pre"); (case g4 => walk_at "mine pre"); (case g5 => walk_at "mine pre"); (case g6 => walk_at "mine pre"); (case g7 => walk_at "mine pre")); intro _ _ _ _ _ _ _ _ _ _ _ _ _ _ _ _ _; (try dsimp only))
  k_with "mine call" => (k_here; (with_reducible show wpAny _ _ (call (Value.ref 327) [Value.ref _, Value.int _ _, Value.int _ _]) _ _ _); k_dflt (refine' use_cpx (log_both_spec _ _ _ _ _ _ _ _ _ _ _ _ _ _ _ _ ?g0 ?g1 ?g2 ?g3 ?g4 ?g5 ?g6 ?g7 ?g8) ?k1 ?k2 ?k3 ?k4 ?k5 ?kK ?kd ?ku ?_; walk_at "mine use"; (case g0 => walk_at "mine mem"); (case g1 => walk_at "mine pair"); (case g2 => walk_at "mine pair"); (case g3 => walk_at "mine pre"); (case g4 => walk_at "mine pre"); (case g5 => walk_at "mine pre"); (case g6 => walk_at "mine pre"); (case g7 => walk_at "mine pre"); (case g8 => walk_at "mine pre")); intro _ _ _ _ _ _ _ _ _ _ _ _ _ _ _ _ _; (try dsimp only))
  k_with "mine call" => (k_here; (with_reducible show wpAny _ _ (call (Value.ref 285) [Value.ref _, Value.ref _]) _ _ _); k_dflt (refine' use_cpxE (exact_product_spec _ _ _ _ _ _ _ _ _ _ _ _ _ _ _ _ _ _ _ _ _ ?g0 ?g1 ?g2 ?g3 ?g4 ?g5 ?g6 ?g7 ?g8) ?k1 ?k2 ?k3 ?k4 ?k5 ?kK ?kd ?ku ?_; walk_at "mine use"; (case g0 => walk_at "mine mem"); (case g1 => walk_at "mine pair"); (case g2 => walk_at "mine pair"); (case g3 => walk_at "mine mem"); (case g4 => walk_at "mine pair"); (case g5 => walk_at "mine pair"); (case g6 => walk_at "mine pre"); (case g7 => walk_at "mine pre"); (case g8 => walk_at "mine ok")); intro _ _ _ _ _ _ _ _ _ _ _ _; (try dsimp only))
  trivial
local macro_rules | `(tactic| walk_at "call ref") => `(tactic| (k_here; (with_reducible show wpAny _ _ (call (Value.ref 344) [Value.ref _, Value.int _ _]) _ _ _); k_dflt (first | (refine' ladle_spec _ _ _ _ _ _ _ _ _ _ _ _ ?hi ?hr ?hm ?h0 ?hoff _ _ _ _ _ _ _ _ _ _ _ _ _ _ _ _ _ ?k1 ?k2 ?k3 ?k4 ?k5 ?kK ?kd ?ku ?_; (case k1 => k_asm); (case k2 => k_asm); (case k3 => k_asm); (case k5 => k_asm); (case kK => first | exact rfl | assumption); (case kd => ktr_room); (case ku => ktr_units); (case hi => with_reducible assumption); (case hr => with_reducible assumption); (case hm => walk_at "mine pre"); (case h0 => first | with_reducible assumption | omega); (case k4 => with_reducible assumption); (case hoff => first | with_reducible assumption | exact off_nil)) | (refine' ladle_spec _ _ _ _ _ _ _ _ _ _ _ _ ?hi ?hr ?hm ?h0 ?hoff _ _ _ _ _ _ _ _ _ _ _ _ _ _ _ _ _ ?k1 ?k2 ?k3 ?k4 ?k5 ?kK ?kd ?ku ?_; (case k1 => k_asm); (case k2 => k_asm); (case k3 => k_asm); (case k5 => k_asm); (case kK => first | exact rfl | assumption); (case kd => ktr_room); (case ku => ktr_units); (case hi => with_reducible assumption); (case hr => with_reducible assumption); (case hm => walk_at "mine pre"); (case h0 => first | with_reducible assumption | omega); (case k4 => exact news_swap (by with_reducible assumption)); (case hoff => first | exact off_cons (off_lt (by with_reducible assumption)) (by with_reducible assumption) | exact off_cons (And.left (by with_reducible assumption)) (by with_reducible assumption))) | (refine' ladle_spec _ _ _ _ _ _ _ _ _ _ _ _ ?hi ?hr ?hm ?h0 ?hoff _ _ _ _ _ _ _ _ _ _ _ _ _ _ _ _ _ ?k1 ?k2 ?k3 ?k4 ?k5 ?kK ?kd ?ku ?_; (case k1 => k_asm); (case k2 => k_asm); (case k3 => k_asm); (case k5 => k_asm); (case kK => first | exact rfl | assumption); (case kd => ktr_room); (case ku => ktr_units); (case hi => with_reducible assumption); (case hr => with_reducible assumption); (case hm => walk_at "mine pre"); (case h0 => first | with_reducible assumption | omega); (case hoff => with_reducible assumption); (case k4 => exact news_drop (by with_reducible assumption) (by walk_at "mine mem") (by walk_at "mine sub")))); intro _ _ _ _ _ _ _ _ _ _; (try dsimp only)))
local macro_rules | `(tactic| walk_at "subscriptTail") => `(tactic| (k_here; (with_reducible show wpAny _ _ (subscriptTail _ _ (Value.ref 337) (Value.int _ _)) _ _ _); k_dflt (refine' units_at ?F ?X ?h0 ?h1 ?_; (case F => k_asm); (case X => k_asm); (case h0 => walk_at "mine pre"); (case h1 => walk_at "mine pre")); intro _ _))
local macro_rules | `(tactic| walk_at "subscriptTail") => `(tactic| (k_here; (with_reducible show wpAny _ _ (subscriptTail _ _ (Value.ref _) (Value.int 0 _)) _ _ _); k_dflt (refine' unit_at0 ?hu ?F ?X ?_; (case hu => with_reducible assumption); (case F => k_asm); (case X => k_asm)); intro _))
local macro_rules | `(tactic| walk_at "subscriptTail") => `(tactic| (k_here; (with_reducible show wpAny _ _ (subscriptTail _ _ (Value.ref _) (Value.int 1 _)) _ _ _); k_dflt (refine' unit_at1 ?hu ?F ?X ?_; (case hu => with_reducible assumption); (case F => k_asm); (case X => k_asm)); intro _))
local macro_rules | `(tactic| walk_at "subscriptTail Name Constant ref int") => `(tactic| walk_at "subscriptTail")
local macro_rules | `(tactic| walk_at "mine menu") => `(tactic| (k_dflt (refine' menu_at ?N ?hm ?h0 ?h1 ?_; (case N => with_reducible assumption); (case hm => walk_at "mine mem"); (case h0 => walk_at "mine pre"); (case h1 => walk_at "mine pre")); intro _ _ _))
local macro_rules | `(tactic| walk_at "subscriptTail") => `(tactic| (k_here; (with_reducible show wpAny _ _ (subscriptTail _ _ (Value.ref _) (Value.int _ _)) _ _ _); walk_at "mine menu"))
local macro_rules | `(tactic| walk_at "KswEnd") => `(tactic| ((rename News _ _ _ _ => nE'); (try simp only [List.push_toArray] at nE'); (refine ksw_end (⟨_, _, _, _⟩) (by with_reducible assumption) nE' (by (try dsimp only); first | walk_at "mine sub" | kst_in) (by kst_facts) (by kst_all) (by intro z h2 h3; (simp only [List.forall_mem_cons, List.not_mem_nil, false_implies, implies_true, and_true, ne_eq] at h2); (simp [h2, PySem.W.kstB]; done)) (by kst_p) (by ksw_less))))
local macro_rules | `(tactic| walk_at "call ref") => `(tactic| (k_here; (with_reducible show wpAny _ _ (call (Value.ref 332) [Value.ref _, Value.ref _, Value.int _ _, Value.int _ _]) _ _ _); k_dflt (refine' use_cpx (law_c2c _ _ _ _ _ _ _ _ _ _ _ _ _ _ _ _ _ _ _ _ ?ga ?gb ?gc ?g0 ?g1 ?g2 ?g4 ?g5 ?g6 ?g7) ?k1 ?k2 ?k3 ?k4 ?k5 ?kK ?kd ?ku ?_; walk_at "mine use"; (case ga => with_reducible assumption); (case gb => with_reducible assumption); (case gc => with_reducible assumption); (case g0 => walk_at "mine mem"); (case g1 => walk_at "mine pair"); (case g2 => walk_at "mine pair"); (case g4 => walk_at "mine mem"); (case g5 => walk_at "mine pair"); (case g6 => walk_at "mine pair"); (case g7 => walk_at "mine pre")); intro _ _ _ _ _ _ _ _ _ _ _ _ _ _ _ _ _; (try dsimp only)))
local macro_rules | `(tactic| walk_at "call ref") => `(tactic| (k_here; (with_reducible show wpAny _ _ (call (Value.ref 351) [Value.ref _, Value.int _ _, Value.int _ _]) _ _ _); k_dflt (refine' use_bool (law_near_spec _ _ _ _ _ _ _ _ _ _ _ _ ?g0 ?g1 ?g2 ?g3 ?g4) ?k1 ?k2 ?k3 ?k4 ?k5 ?kK ?kd ?ku ?_; walk_at "mine use"; (case g0 => walk_at "mine pair"); (case g1 => walk_at "mine pre"); (case g2 => walk_at "mine pre"); (case g3 => walk_at "mine pre"); (case g4 => walk_at "mine pre")); intro _ _ _ _; (try dsimp only)))
set_option Elab.async true in
set_option maxRecDepth 100000 in
set_option maxHeartbeats 8000000 in
theorem law_holds : PySem.Challenge.rw_rh0118_01.Holds := by
  w_on; o_law
  o_head (kHook pre.heap_1 [2, 3, 15, 22, 24, 25, 27, 28, 29, 30, 31, 32, 35, 42, 43, 44, 47, 48, 50, 51, 53, 54, 55, 57, 58, 60, 61, 62, 64, 65, 67, 68, 69, 71, 72, 74, 75, 76, 78, 79, 81, 82, 83, 85, 86, 88, 89, 90, 92, 93, 95, 96, 97, 99, 100, 102, 103, 104, 106, 107, 109, 110, 111, 113, 114, 116, 117, 118, 120, 121, 123, 124, 125, 127, 128, 130, 131, 132, 134, 135, 137, 138, 139, 141, 142, 144, 145, 146, 148, 149, 151, 152, 153, 155, 156, 158, 159, 160, 162, 163, 165, 166, 167, 169, 170, 172, 173, 174, 176, 177, 179, 180, 181, 183, 184, 186, 187, 188, 190, 191, 193, 194, 195, 197, 198, 200, 201, 202, 204, 205, 207, 208, 209, 211, 212, 214, 215, 216, 218, 219, 221, 222, 223, 225, 226, 228, 229, 230, 232, 233, 235, 236, 237, 239, 240, 242, 243, 244, 246, 247, 249, 250, 251, 253, 254, 256, 257, 258, 260, 261, 263, 264, 265, 267, 268, 270, 271, 272, 274, 275, 277, 278, 279, 281, 282, 284, 285, 286, 288, 289, 291, 292, 293, 295, 296, 298, 299, 300, 302, 303, 305, 306, 307, 309, 310, 312, 313, 314, 316, 317, 319, 320, 321, 323, 324, 326, 327, 328, 331, 332, 333, 334, 335, 336, 337, 338, 340, 341, 343, 344, 345, 347, 348, 350, 351, 352, 354, 355, 357, 358] (fun _ => by kernel_rfl))
  (case hw => w_witness2)
  change WalkO pre.view_1 [] (XL pre.view_1 []) (kHook pre.heap_1 _ _).says _ _ _ _
  w_strict (
    k_go0
    iterate 19 walk1
    (rename News _ _ _ _ => nL)
    (rename IntsAre _ (_ ++ _) => hP)
    obtain ⟨rest, hP2, hr⟩ := pot_start hP
    have nL2 := news_head nL
    clear nL hP
    iterate 21 walk1
    k_dflt (refine law_loop (i := 0 + 1) (by rfl) (by assumption) (by assumption) (by assumption) (by assumption) (by assumption) (by decide) (by assumption) (by rfl) (by rfl) ?_ ?_)
    · intro i vs k t u h tk own hi0 hiv hoff F N
      (rename Ground _ _ _ _ _ _ _ _ _ => z1; clear z1)
      (rename Flt.MathXP _ _ _ => z1; clear z1)
      (rename LooseAre _ _ _ => z1; clear z1)
      (rename Glob _ _ _ _ _ _ _ _ => z1; clear z1)
      clear hP2 nL2
      k_with "mine pre" => with_reducible first
        | exact ten_pos
        | exact Int.fmod_nonneg_of_pos _ (by decide)
        | exact Int.fmod_lt_of_pos _ (by decide)
        | exact unit_is (by with_reducible assumption) (by with_reducible assumption)
        | exact mi_sit (by with_reducible assumption) (by with_reducible assumption) (by with_reducible assumption) (by decide) (by with_reducible assumption)
        | exact sit_zero (by with_reducible assumption) (by with_reducible assumption) (by with_reducible assumption)
        | exact ux_le _
        | exact uy_le _
        | exact near_fst (by with_reducible assumption) (mi_rest (by with_reducible assumption))
        | exact near_snd (by with_reducible assumption) (mi_rest (by with_reducible assumption))
        | exact near_fst (by with_reducible assumption) (mi_rest0 (by with_reducible assumption) (by with_reducible assumption))
        | exact near_snd (by with_reducible assumption) (mi_rest0 (by with_reducible assumption) (by with_reducible assumption))
      k_with "mine sm" => with_reducible first | exact sm_pow (by omega) | exact sm_kms' (by with_reducible assumption) (by with_reducible assumption) (by with_reducible assumption) (by decide) (by with_reducible assumption) (by with_reducible assumption)
      k_with "exec While BoolOp cons nil" => k_while_given ["m!", "e!"] (fun m0 e0 _ m e => MI m0 e0 m e) (fun _ _ _ m _ => m.toNat) "m" "e"
      k_with "state" => first
        | exact mi_turn (by assumption) (by assumption) (by assumption)
        | exact mi_start (by assumption) (by assumption) (by assumption) (by assumption) (by assumption)
      k_with "measure" => first | exact mi_meas' (by assumption) (by assumption)
      k_steps
      all_goals exact turn_end (by with_reducible assumption) (by with_reducible assumption) (by walk_at "mine mem") (by walk_at "mine sub") (by with_reducible assumption) (by omega) (by rfl) (by intro z h1 h2 h3; have h4 := h3; have h5 := not_names h3; simp only [lawNames, List.contains_cons, List.contains_nil, Bool.or_false, Bool.or_eq_false_iff, beq_eq_false_iff_ne, ne_eq] at h4; (simp [h1, h2, h3, h4, h5, PySem.W.kstB]) <;> (intro hz; exact absurd hz h5))
    · intro c u h tk F N
      (rename Ground _ _ _ _ _ _ _ _ _ => z1; clear z1)
      (rename Flt.MathXP _ _ _ => z1; clear z1)
      (rename LooseAre _ _ _ => z1; clear z1)
      (rename Glob _ _ _ _ _ _ _ _ => z1; clear z1)
      clear hP2 nL2
      k_steps)
end
end Mine
set_option maxRecDepth 100000 in
set_option maxHeartbeats 8000000 in
theorem PySem.Challenge.cw_rh0118_01_holds : PySem.Challenge.rw_rh0118_01.Holds :=
  Mine.law_holds
