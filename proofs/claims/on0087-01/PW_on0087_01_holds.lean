import PyProof.Rows.All
import Wide.All
import OpenK.AllK
import Wide.FinOn
import PySem.Challenge.RW_on0087_01
open PySem PySem.W PySem.Calls PyProof.Rows
set_option Elab.async false
set_option maxRecDepth 100000
set_option maxHeartbeats 8000000
set_option linter.all false
namespace Mine
open_top hd for PySem.Challenge.rw_on0087_01
-- the top's lines are put off again for the walks behind it
theorem top_off : True := by
  w_top off
  trivial

/-! contracts of calls, letters -/
section
abbrev Cl0 (w : World) (mean : ExcName → Option Value) (mg mb : Str → Option Value) (f : Addr) (dp un : Nat) (news : List (Addr × Obj)) (vs : List Value) (Post : Value → List (Addr × Obj) → Prop) : Prop :=
  ∀ (gd : Option (List Code)) (cn : Str) (cs : Scope) (a : Addr) (ccd : Value) (cl : List (Str × Addr)) (outer : List Env) (A₀ : Around) (base h₀ : Heap) (L : Addr) (m : Str → Option Value) (s : Shared) (Q E : Value → Shared → Prop),
    Below A₀ base outer h₀ → Fr h₀ L s.heap m → (hd.heap_39 w.params).In h₀ → News h₀ L s.heap news → Top hd.view_39 (looseW hd.view_39 []) mean mg mb h₀ → cs.kind = .function →
    (∀ (v : Value) (h' : Heap) (tk' : Nat) (news' : List (Addr × Obj)), Fr h₀ L h' m → News h₀ L h' news' → Post v news' → Q v { s with heap := h', toks := tk' }) →
    wpAny (model PySem.Challenge.rw_on0087_01.row.prog w) (ktrTop dp un gd cn cs L a ccd cl outer) (call (.ref f) vs) Q E s
abbrev Cl (w : World) (mean : ExcName → Option Value) (mg mb : Str → Option Value) (f : Addr) (D U : Nat) (news : List (Addr × Obj)) (vs : List Value) (Post : Value → List (Addr × Obj) → Prop) : Prop :=
  ∀ dp un, dp ≤ D → un ≤ U → Cl0 w mean mg mb f dp un news vs Post
theorem Cl.of {w : World} {mean : ExcName → Option Value} {mg mb : Str → Option Value} {f : Addr} {D U : Nat} {news : List (Addr × Obj)} {vs : List Value} {Post : Value → List (Addr × Obj) → Prop} (h : Cl0 w mean mg mb f D U news vs Post) : Cl w mean mg mb f D U news vs Post := by
  intro dp un hd hu gd cn cs a ccd cl outer A₀ base h₀ L m s Q E B F X N T hk hret Γ p hΓ
  exact h gd cn cs a ccd cl outer A₀ base h₀ L m s Q E B F X N T hk hret Γ p ⟨hΓ.1, Nat.le_trans hΓ.2.1 hd, hΓ.2.2.1, hΓ.2.2.2.1, Nat.le_trans hΓ.2.2.2.2 hu⟩

/-- a letter of a row -/
inductive Lt where
  | sym (x : Str)
  | edge (a b : Str)
abbrev tupO (vs : List Value) (n : Nat) : Obj := { cls := .type "tuple", data := .seq vs.toArray n }
/-- how the ledger bears a letter -/
inductive LtIn (news : List (Addr × Obj)) : Value → Lt → Prop where
  | sym (x : Str) (t : Tok) : LtIn news (.str x t) (.sym x)
  | edge {l : Addr} {x a b : Str} {t ta tb : Tok} {n : Nat} : x = Str.ofString "edge" → (l, tupO [.str x t, .str a ta, .str b tb] n) ∈ news → LtIn news (.ref l) (.edge a b)
theorem LtIn.mono {news news' : List (Addr × Obj)} {v : Value} {l : Lt} (h : LtIn news v l) (hs : ∀ p ∈ news, p ∈ news') : LtIn news' v l := by
  cases h with
  | sym x t => exact .sym x t
  | edge hx hm => exact .edge hx (hs _ hm)
abbrev syms : List Str := ["0", "1", "x", "b", "?", "r", "f", "p", "n", "*"]
abbrev levs : List Str := ["0", "1", "x", "b", "?"]
def Lt.Ok : Lt → Prop
  | .sym x => x ∈ syms
  | .edge a b => a ∈ levs ∧ b ∈ levs
abbrev edgeSyms : List Str := ["r", "f", "p", "n", "*"]
def Lt.isEdge : Lt → Bool
  | .sym x => edgeSyms.any (· == x)
  | .edge _ _ => true
/-- the levels that a letter stands for -/
def codes (a : Str) : List Int :=
  if a = Str.ofString "0" then [0] else if a = Str.ofString "1" then [1] else if a = Str.ofString "x" then [3] else if a = Str.ofString "b" then [0, 1] else if a = Str.ofString "?" then [0, 1, 3] else []
/-- no change fits -/
def Lt.isEmpty : Lt → Bool
  | .sym _ => false
  | .edge a b => (codes a).all fun v => (codes b).all fun w => v == w
theorem eq_tup_str {prog : Program} {w : World} {A : Around} {E : Value → Shared → Prop} {s : Shared} {h₀ : Heap} {L l : Addr} {news : List (Addr × Obj)} {vs : List Value} {n : Nat} {b : Str} {u : Tok} {Q : Value → Shared → Prop} (N : News h₀ L s.heap news)
    (hm : (l, tupO vs n) ∈ news) (hu : A.units < cLine) (h : Q (.bool false) s) : wpAny (model prog w) A (compareOp .Eq (.ref l) (.str b u)) Q E s := by
  show wpAny _ A (richCompare .Eq _ _) Q E s
  exact PySem.SeqAt.RcAt.tuple_str b u ⟨_, (N _ hm).1, rfl, n, rfl⟩ hu prog w E Q h
theorem off_of_lt {news : List (Addr × Obj)} {d : Addr} (h : ∀ p ∈ news, p.1 < d) : ∀ p ∈ news, p.1 ≠ d := fun p hp => Nat.ne_of_lt (h p hp)
abbrev trio : List Str := ["0", "1", "x"]
def sub (x S : Str) : Bool := !(Builtin.Str.occurrences S x 0 S.length 1).isEmpty
def sortS (a : Str) : Str :=
  if a = Str.ofString "0" then "0" else if a = Str.ofString "1" then "1" else if a = Str.ofString "x" then "x" else if a = Str.ofString "b" then "01" else "01x"
def fitsV (a b x y : Str) : Bool := !(x == y) && (sub x (sortS a) && sub y (sortS b))
theorem sortS_0 {a : Str} (h : a = Str.ofString "0") : sortS a = Str.ofString "0" := by subst h; decide +kernel
theorem sortS_1 {a : Str} (h : a = Str.ofString "1") : sortS a = Str.ofString "1" := by subst h; decide +kernel
theorem sortS_x {a : Str} (h : a = Str.ofString "x") : sortS a = Str.ofString "x" := by subst h; decide +kernel
theorem sortS_b {a : Str} (h : a = Str.ofString "b") : sortS a = Str.ofString "01" := by subst h; decide +kernel
theorem sortS_q {a : Str} (h : a = Str.ofString "?") : sortS a = Str.ofString "01x" := by subst h; decide +kernel
theorem fits1 {a b x y : Str} (h : (x == y) = true) : false = fitsV a b x y := by unfold fitsV; rw [h]; rfl
theorem fits2 {a b x y S : Str} (hS : sortS a = S) (h : (x == y) = false) (h2 : (Builtin.Str.occurrences S x 0 S.length 1).isEmpty = true) : (!(Builtin.Str.occurrences S x 0 S.length 1).isEmpty) = fitsV a b x y := by
  unfold fitsV sub; rw [h, hS, h2]; rfl
theorem fits3 {a b x y S T : Str} (hS : sortS a = S) (hT : sortS b = T) (h : (x == y) = false) (h2 : (Builtin.Str.occurrences S x 0 S.length 1).isEmpty = false) : (!(Builtin.Str.occurrences T y 0 T.length 1).isEmpty) = fitsV a b x y := by
  unfold fitsV sub; rw [h, hS, hT, h2]; rfl
def emptyV (a b : Str) : Bool := trio.all fun x => trio.all fun y => !fitsV a b x y
theorem emptyV_ff {a b x y : Str} (h : fitsV a b x y = true) (hx : x ∈ trio := by decide +kernel) (hy : y ∈ trio := by decide +kernel) : false = emptyV a b := by
  unfold emptyV
  symm
  rw [List.all_eq_false]
  refine ⟨x, hx, ?_⟩
  rw [Bool.not_eq_true, List.all_eq_false]
  exact ⟨y, hy, by rw [h]; decide⟩
theorem emptyV_tt {a b : Str} (h1 : fitsV a b "0" "0" = false) (h2 : fitsV a b "0" "1" = false) (h3 : fitsV a b "0" "x" = false) (h4 : fitsV a b "1" "0" = false) (h5 : fitsV a b "1" "1" = false) (h6 : fitsV a b "1" "x" = false)
    (h7 : fitsV a b "x" "0" = false) (h8 : fitsV a b "x" "1" = false) (h9 : fitsV a b "x" "x" = false) : true = emptyV a b := by
  unfold emptyV
  simp only [List.all_cons, List.all_nil, h1, h2, h3, h4, h5, h6, h7, h8, h9]; rfl
/-- a call that is walked over a small ledger; what lies beside it stays -/
abbrev ClF (w : World) (mean : ExcName → Option Value) (mg mb : Str → Option Value) (f : Addr) (dp un : Nat) (small : List (Addr × Obj)) (vs : List Value) (Post : Value → List (Addr × Obj) → Prop) : Prop :=
  ∀ (gd : Option (List Code)) (cn : Str) (cs : Scope) (a : Addr) (ccd : Value) (cl : List (Str × Addr)) (outer : List Env) (A₀ : Around) (base h₀ : Heap) (L : Addr) (m : Str → Option Value) (s : Shared) (Q E : Value → Shared → Prop),
    Below A₀ base outer h₀ → Fr h₀ L s.heap m → (hd.heap_39 w.params).In h₀ → News h₀ L s.heap small → Top hd.view_39 (looseW hd.view_39 []) mean mg mb h₀ → cs.kind = .function →
    (∀ (v : Value) (h' : Heap) (tk' : Nat) (nx : List (Addr × Obj)), Fr h₀ L h' m → News h₀ L h' nx → (∀ b o, s.heap.get? b = some o → b ∉ small.map (·.1) → h'.get? b = some o) → Post v nx → Q v { s with heap := h', toks := tk' }) →
    wpAny (model PySem.Challenge.rw_on0087_01.row.prog w) (ktrTop dp un gd cn cs L a ccd cl outer) (call (.ref f) vs) Q E s
theorem ClF.toCl {w : World} {mean : ExcName → Option Value} {mg mb : Str → Option Value} {f : Addr} {D U : Nat} {small news : List (Addr × Obj)} {vs : List Value} {r : Value} (h : ClF w mean mg mb f D U small vs (fun v nx => v = r ∧ nx = small)) (hs : ∀ p ∈ small, p ∈ news) :
    Cl w mean mg mb f D U news vs (fun v nx => v = r ∧ nx = news) := by
  refine Cl.of ?_
  intro gd cn cs a ccd cl outer A₀ base h₀ L m s Q E B F X N T hk hret
  refine h gd cn cs a ccd cl outer A₀ base h₀ L m s Q E B F X (fun p hp => N p (hs p hp)) T hk ?_
  rintro v h' tk' nx F' N' keep ⟨rfl, rfl⟩
  refine hret _ _ _ _ F' (fun p hp => ⟨?_, (N p hp).2⟩) ⟨rfl, rfl⟩
  by_cases hq : p.1 ∈ nx.map (·.1)
  · obtain ⟨q, hq1, hq2⟩ := List.mem_map.mp hq
    have e1 := (N q (hs q hq1)).1
    have e2 := (N p hp).1
    rw [hq2, e2] at e1
    have e3 := (N' q hq1).1
    rw [hq2] at e3
    rw [e3]; exact e1.symm
  · exact keep _ _ (N p hp).1 hq
theorem keepF {g h h₁ : Heap} {L' : Addr} {m' : Str → Option Value} {adr : List Addr} (F : Fr g L' h m') (G : GSub h₁ g adr) : ∀ b o, h₁.get? b = some o → b ∉ adr → h.get? b = some o := fun b o e n => F.keep b o (G b o e n)
def Lt.empty : Lt → Bool
  | .sym _ => false
  | .edge a b => emptyV a b
theorem codes_0 {a : Str} (h : (a == Str.ofString "0") = true) : codes a = [0] := by rw [eq_of_beq h]; decide +kernel
theorem codes_1 {a : Str} (h : (a == Str.ofString "1") = true) : codes a = [1] := by rw [eq_of_beq h]; decide +kernel
theorem codes_x {a : Str} (h : (a == Str.ofString "x") = true) : codes a = [3] := by rw [eq_of_beq h]; decide +kernel
theorem codes_b {a : Str} (h : (a == Str.ofString "b") = true) : codes a = [0, 1] := by rw [eq_of_beq h]; decide +kernel
theorem codes_q {a : Str} (h : (a == Str.ofString "?") = true) : codes a = [0, 1, 3] := by rw [eq_of_beq h]; decide +kernel
theorem codes_no {a : Str} (h0 : (a == Str.ofString "0") = false) (h1 : (a == Str.ofString "1") = false) (h2 : (a == Str.ofString "x") = false) (h3 : (a == Str.ofString "b") = false) (h4 : (a == Str.ofString "?") = false) (h : a ∈ levs) : False := by
  simp only [List.mem_cons, List.not_mem_nil, or_false] at h
  rcases h with rfl | rfl | rfl | rfl | rfl <;> simp_all
end

/-! loops by a datum -/
section
section
variable {prog : Program} {w : World} {A : Around} {E : Value → Shared → Prop} {s : Shared} {env : Env} {h₀ : Heap} {x : Str} {body : List Stmt} {Q : Flow → Shared → Prop}
/-- the end of a turn, the iterator's object beside the ledger -/
def EndI (h₀ : Heap) (L : Addr) (J : (Str → Option Value) → List (Addr × Obj) → Prop) (I : Addr) (oI : Obj) (s₁ : Shared) (Q : Flow → Shared → Prop) (f : Flow) (s₂ : Shared) : Prop :=
  match f with
  | .ret v => Q (.ret v) s₂
  | .brk => Q .next s₂
  | _ => ∃ h' tk m' nx, s₂ = { s₁ with heap := h', toks := tk } ∧ Fr h₀ L h' m' ∧ News h₀ L h' ((I, oI) :: nx) ∧ (∀ p ∈ nx, p.1 ≠ I) ∧ J m' nx
theorem loopI {I : Addr} {cs : List (Addr × Obj)} {n : Nat} {P : Nat → Value → Prop} {St : Nat → Heap → Prop} {m₀ : Str → Option Value} {news : List (Addr × Obj)} (J : Nat → (Str → Option Value) → List (Addr × Obj) → Prop)
    (W : Walks prog w A I (I :: cs.map (·.1)) [I] n P St) (hSt : ∀ i h, St i h → ∃ oI, h.get? I = some oI) (hI0 : h₀.get? I = none) (hIL : env.locals ≠ I)
    (hc : ∀ i m nx, J i m nx → ∀ q ∈ cs, q ∈ nx) (hn : ∀ p ∈ news, p.1 ≠ I) (st0 : St 0 s.heap) (F : Fr h₀ env.locals s.heap m₀) (N : News h₀ env.locals s.heap news) (hj : J 0 m₀ news)
    (turn : ∀ i v m₁ nx h tk oI, i < n → P i v → (∀ p ∈ nx, p.1 ≠ I) → J i m₁ nx → Fr h₀ env.locals h (fun y => if y = x then some v else m₁ y) → News h₀ env.locals h ((I, oI) :: nx) →
      wpAny (model prog w) A (execs body env) (EndI h₀ env.locals (J (i + 1)) I oI { s with heap := h, toks := tk } Q) E { s with heap := h, toks := tk })
    (done : ∀ m₁ nx h tk, J n m₁ nx → Fr h₀ env.locals h m₁ → News h₀ env.locals h nx → Q .next { s with heap := h, toks := tk }) :
    LoopAtV prog w A h₀ env x body Q E (.ref I) s := by
  refine ⟨I, I :: cs.map (·.1), [I], n, P, St, m₀, news, J, rfl, W, ?_, ?_, ?_, st0, F, N, hj, ?_, ?_⟩
  · intro hm
    rcases List.mem_cons.mp hm with e | hm
    · exact hIL e
    · obtain ⟨q, hq, e⟩ := List.mem_map.mp hm
      exact (N q (hc _ _ _ hj q hq)).2.1 e
  · intro b hb
    rw [List.mem_singleton.mp hb]; exact hI0
  · intro p hp hI
    exact hn p hp (List.mem_singleton.mp hI)
  · rintro i v m₁ news₁ s₁ own ⟨hh', tk', rfl⟩ hin hP hJ hoff hown hget hall hst F₁ N₁
    obtain ⟨oI, hoI⟩ := hSt _ _ hst
    have hI : (I, oI) ∈ own := hall I (List.mem_cons_self ..) hI0 oI hoI
    have hne : ∀ p ∈ news₁, p.1 ≠ I := fun p hp e => hoff p hp (List.mem_singleton.mpr e)
    have N₂ : News h₀ env.locals hh' ((I, oI) :: news₁) := fun p hp => by
      rcases List.mem_cons.mp hp with rfl | hp
      · exact N₁ _ (List.mem_append.mpr (.inl hI))
      · exact N₁ _ (List.mem_append.mpr (.inr hp))
    refine wpAny_mono (turn i v m₁ news₁ hh' tk' oI hin hP hne hJ F₁ N₂) (fun f s₂ p => ?_) fun _ _ e => e
    have fin : (∃ h' tk m' nx, s₂ = { s with heap := h', toks := tk } ∧ Fr h₀ env.locals h' m' ∧ News h₀ env.locals h' ((I, oI) :: nx) ∧ (∀ p ∈ nx, p.1 ≠ I) ∧ J (i + 1) m' nx) → LoopStepU h₀ env.locals [I] own (J (i + 1)) { s with heap := hh', toks := tk' } .next s₂ := by
      rintro ⟨h', tk, m', nx, e, F', N', ha, hm⟩
      refine ⟨rfl, h', tk, m', nx, e, F', fun p hp => ?_, fun p hp hq => ha p hp (List.mem_singleton.mp hq), hm⟩
      rcases List.mem_append.mp hp with hp | hp
      · have g1 : hh'.get? p.1 = some p.2 := hget p hp
        rcases List.mem_cons.mp (hown p hp) with e1 | e1
        · rw [e1, hoI] at g1
          have : p = (I, oI) := Prod.ext e1 (Option.some.inj g1).symm
          rw [this]; exact N' _ (List.mem_cons_self ..)
        · obtain ⟨q, hq, e2⟩ := List.mem_map.mp e1
          have g2 := (N₁ q (List.mem_append.mpr (.inr (hc _ _ _ hJ q hq)))).1
          rw [e2, g1] at g2
          have : p = q := Prod.ext e2.symm (Option.some.inj g2)
          rw [this]; exact N' _ (List.mem_cons_of_mem _ (hc _ _ _ hm q hq))
      · exact N' p (List.mem_cons_of_mem _ hp)
    cases f with
    | ret v => exact .ret p
    | brk => exact .brk p
    | next => exact .next (fin p)
    | cont => exact .cont (fin p)
  · rintro h' tk m' news' F' N' _ hJ
    exact done m' news' h' tk hJ F' N'
theorem iterT {c : Addr} {vs : List Value} {nn : Nat} {m₀ : Str → Option Value} {news : List (Addr × Obj)} (J : Nat → (Str → Option Value) → List (Addr × Obj) → Prop)
    (hh : A.handled = none) (hm : (c, tupO vs nn) ∈ news) (hc : ∀ i m nx, J i m nx → (c, tupO vs nn) ∈ nx) (F : Fr h₀ env.locals s.heap m₀) (N : News h₀ env.locals s.heap news) (hj : J 0 m₀ news)
    (turn : ∀ i v m₁ nx h tk I oI, vs[i]? = some v → (∀ p ∈ nx, p.1 ≠ I) → J i m₁ nx → Fr h₀ env.locals h (fun y => if y = x then some v else m₁ y) → News h₀ env.locals h ((I, oI) :: nx) →
      wpAny (model prog w) A (execs body env) (EndI h₀ env.locals (J (i + 1)) I oI { s with heap := h, toks := tk } Q) E { s with heap := h, toks := tk })
    (done : ∀ m₁ nx h tk, J vs.length m₁ nx → Fr h₀ env.locals h m₁ → News h₀ env.locals h nx → Q .next { s with heap := h, toks := tk }) :
    wpAny (model prog w) A (pyIter (.ref c)) (fun it s₂ => LoopAtV prog w A h₀ env x body Q E it s₂) E s := by
  have ht : s.heap.IsTuple c vs.toArray := ⟨_, (N _ hm).1, rfl, nn, rfl⟩
  have hne : c ≠ s.heap.objs.size := Nat.ne_of_lt (Heap.lt_size (N _ hm).1)
  refine wpAny_pyIter_tuple ht ?_
  have W := Walks.tuple (prog := prog) (w := w) hh s.heap.objs.size c hne vs.toArray
  have hlen : vs.toArray.size = vs.length := by simp
  rw [hlen] at W
  refine loopI (cs := [(c, tupO vs nn)]) (news := news) J W (fun i h st => ?_) (next_is_new F) (Nat.ne_of_lt F.ns.lt) (fun i m nx hJ q hq => ?_) (fun p hp => Nat.ne_of_lt (Heap.lt_size (N p hp).1)) ⟨⟨_, Heap.get?_push_size _ rfl, rfl, rfl⟩, ht.push _⟩ (F.push _) (fun p hp => ⟨Heap.get?_push_of_some _ (N p hp).1, (N p hp).2⟩) hj ?_ ?_
  · obtain ⟨⟨o, ho, _⟩, _⟩ := st; exact ⟨o, ho⟩
  · rw [List.mem_singleton.mp hq]; exact hc _ _ _ hJ
  · intro i v m₁ nx h tk oI _ hP hne hJ F₁ N₁
    exact turn i v m₁ nx h tk _ oI (by simpa using hP) hne hJ F₁ N₁
  · exact done
theorem iterL {c : Addr} {vs : List Value} {nn : Nat} {m₀ : Str → Option Value} {news : List (Addr × Obj)} (J : Nat → (Str → Option Value) → List (Addr × Obj) → Prop)
    (hh : A.handled = none) (hm : (c, listOf vs.toArray nn) ∈ news) (hc : ∀ i m nx, J i m nx → (c, listOf vs.toArray nn) ∈ nx) (F : Fr h₀ env.locals s.heap m₀) (N : News h₀ env.locals s.heap news) (hj : J 0 m₀ news)
    (turn : ∀ i v m₁ nx h tk I oI, vs[i]? = some v → (∀ p ∈ nx, p.1 ≠ I) → J i m₁ nx → Fr h₀ env.locals h (fun y => if y = x then some v else m₁ y) → News h₀ env.locals h ((I, oI) :: nx) →
      wpAny (model prog w) A (execs body env) (EndI h₀ env.locals (J (i + 1)) I oI { s with heap := h, toks := tk } Q) E { s with heap := h, toks := tk })
    (done : ∀ m₁ nx h tk, J vs.length m₁ nx → Fr h₀ env.locals h m₁ → News h₀ env.locals h nx → Q .next { s with heap := h, toks := tk }) :
    wpAny (model prog w) A (pyIter (.ref c)) (fun it s₂ => LoopAtV prog w A h₀ env x body Q E it s₂) E s := by
  have hl : s.heap.IsList c vs.toArray := ⟨_, (N _ hm).1, rfl, nn, rfl⟩
  have hne : c ≠ s.heap.objs.size := Nat.ne_of_lt (Heap.lt_size (N _ hm).1)
  refine wpAny_pyIter_list hl ?_
  have W := Walks.list (prog := prog) (w := w) hh s.heap.objs.size c hne vs.toArray
  have hlen : vs.toArray.size = vs.length := by simp
  rw [hlen] at W
  refine loopI (cs := [(c, listOf vs.toArray nn)]) (news := news) J W (fun i h st => ?_) (next_is_new F) (Nat.ne_of_lt F.ns.lt) (fun i m nx hJ q hq => ?_) (fun p hp => Nat.ne_of_lt (Heap.lt_size (N p hp).1)) ⟨⟨_, Heap.get?_push_size _ rfl, rfl, rfl⟩, hl.at fun o e => Heap.get?_push_of_some _ e⟩ (F.push _) (fun p hp => ⟨Heap.get?_push_of_some _ (N p hp).1, (N p hp).2⟩) hj ?_ ?_
  · obtain ⟨⟨o, ho, _⟩, _⟩ := st; exact ⟨o, ho⟩
  · rw [List.mem_singleton.mp hq]; exact hc _ _ _ hJ
  · intro i v m₁ nx h tk oI _ hP hne hJ F₁ N₁
    exact turn i v m₁ nx h tk _ oI (by simpa using hP) hne hJ F₁ N₁
  · exact done
theorem iterR {r : Addr} {b₀ : Int} {t₀ u₀ v₀ : Tok} {n : Nat} {m₀ : Str → Option Value} {news : List (Addr × Obj)} (J : Nat → (Str → Option Value) → List (Addr × Obj) → Prop)
    (hh : A.handled = none) (hr : IsRange s.heap r 0 b₀ 1 t₀ u₀ v₀) (hsmall : Builtin.Range.small 0 b₀ 1 = true) (hsz : Builtin.Range.rangeSize 0 b₀ 1 = (n : Int)) (F : Fr h₀ env.locals s.heap m₀) (N : News h₀ env.locals s.heap news) (hj : J 0 m₀ news)
    (turn : ∀ i t m₁ nx h tk I oI, i < n → (∀ p ∈ nx, p.1 ≠ I) → J i m₁ nx → Fr h₀ env.locals h (fun y => if y = x then some (.int (i : Int) t) else m₁ y) → News h₀ env.locals h ((I, oI) :: nx) →
      wpAny (model prog w) A (execs body env) (EndI h₀ env.locals (J (i + 1)) I oI { s with heap := h, toks := tk } Q) E { s with heap := h, toks := tk })
    (done : ∀ m₁ nx h tk, J n m₁ nx → Fr h₀ env.locals h m₁ → News h₀ env.locals h nx → Q .next { s with heap := h, toks := tk }) :
    wpAny (model prog w) A (pyIter (.ref r)) (fun it s₂ => LoopAtV prog w A h₀ env x body Q E it s₂) E s := by
  refine wpAny_pyIter_range hr hsmall ?_
  have W : Walks prog w A s.heap.objs.size [s.heap.objs.size] [s.heap.objs.size] n (fun i v => ∃ t, v = .int (0 + (i : Int) * 1) t) (fun i h => IsRangeIter h s.heap.objs.size (0 + (i : Nat) * 1) ((n : Int) - (i : Nat)) 1) := Walks.range hh _ 0 1 n
  refine loopI (cs := []) (news := news) J W (fun i h st => ⟨_, st⟩) (next_is_new F) (Nat.ne_of_lt F.ns.lt) (fun i m nx hJ q hq => nomatch hq) (fun p hp => Nat.ne_of_lt (Heap.lt_size (N p hp).1)) (by show IsRangeIter _ _ _ _ _; rw [hsz]; simpa using Heap.get?_push_size _ rfl) (F.push _) (fun p hp => ⟨Heap.get?_push_of_some _ (N p hp).1, (N p hp).2⟩) hj ?_ ?_
  · rintro i v m₁ nx h tk oI hi ⟨t, rfl⟩ hne hJ F₁ N₁
    have e : (0 + (i : Int) * 1) = (i : Int) := by omega
    rw [e] at F₁
    exact turn i t m₁ nx h tk _ oI hi hne hJ F₁ N₁
  · exact done
/-- a loop whose state is a datum: what heads the ledger, what the names hold -/
def EndS {σ : Type} (Led : σ → List (Addr × Obj)) (ps : σ → List (Str × Value)) (G : σ → Prop) (base : List (Addr × Obj)) (h₀ : Heap) (L : Addr) (I : Addr) (oI : Obj) (s₁ : Shared) (Q : Flow → Shared → Prop) (f : Flow) (s₂ : Shared) : Prop :=
  match f with
  | .ret v => Q (.ret v) s₂
  | .brk => Q .next s₂
  | _ => ∃ h' tk m' c', s₂ = { s₁ with heap := h', toks := tk } ∧ Fr h₀ L h' m' ∧ News h₀ L h' ((I, oI) :: (Led c' ++ base)) ∧ (∀ p ∈ Led c', p.1 ≠ I) ∧ (∀ p ∈ ps c', m' p.1 = some p.2) ∧ G c'
theorem EndS.mk {σ : Type} {Led : σ → List (Addr × Obj)} {ps : σ → List (Str × Value)} {G : σ → Prop} {base : List (Addr × Obj)} {L : Addr} {I : Addr} {oI : Obj} {s₁ : Shared} {h' : Heap} {tk : Nat} {m' : Str → Option Value} (c' : σ)
    (F : Fr h₀ L h' m') (N : News h₀ L h' ((I, oI) :: (Led c' ++ base))) (hI : ∀ p ∈ Led c', p.1 ≠ I) (hp : ∀ p ∈ ps c', m' p.1 = some p.2) (hG : G c') :
    EndS Led ps G base h₀ L I oI s₁ Q .next { s₁ with heap := h', toks := tk } := ⟨h', tk, m', c', rfl, F, N, hI, hp, hG⟩
theorem kstB_self {m : Str → Option Value} {ps : List (Str × Value)} (h : ∀ p ∈ ps, m p.1 = some p.2) : kstB m ps = m := by
  funext z; exact kstB_eq h fun _ => rfl
section
variable {σ : Type} {Led : σ → List (Addr × Obj)} {ps : σ → List (Str × Value)} {base : List (Addr × Obj)}
abbrev JS (Led : σ → List (Addr × Obj)) (ps : σ → List (Str × Value)) (G : Nat → σ → Prop) (base : List (Addr × Obj)) (i : Nat) (m : Str → Option Value) (nx : List (Addr × Obj)) : Prop :=
  ∃ c, nx = Led c ++ base ∧ (∀ p ∈ ps c, m p.1 = some p.2) ∧ G i c
theorem endS_I {G : Nat → σ → Prop} {L : Addr} {I : Addr} {oI : Obj} {s₁ s₂ : Shared} {i : Nat} {f : Flow} (hb : ∀ p ∈ base, p.1 ≠ I) (h : EndS Led ps (G (i + 1)) base h₀ L I oI s₁ Q f s₂) : EndI h₀ L (JS Led ps G base (i + 1)) I oI s₁ Q f s₂ := by
  have up : (∃ h' tk m' c', s₂ = { s₁ with heap := h', toks := tk } ∧ Fr h₀ L h' m' ∧ News h₀ L h' ((I, oI) :: (Led c' ++ base)) ∧ (∀ p ∈ Led c', p.1 ≠ I) ∧ (∀ p ∈ ps c', m' p.1 = some p.2) ∧ G (i + 1) c') →
      ∃ h' tk m' nx, s₂ = { s₁ with heap := h', toks := tk } ∧ Fr h₀ L h' m' ∧ News h₀ L h' ((I, oI) :: nx) ∧ (∀ p ∈ nx, p.1 ≠ I) ∧ JS Led ps G base (i + 1) m' nx := by
    rintro ⟨h', tk, m', c', e, F', N', hI, hp, hG⟩
    exact ⟨h', tk, m', _, e, F', N', fun p hp => (List.mem_append.mp hp).elim (hI p) (hb p), c', rfl, hp, hG⟩
  cases f with
  | ret v => exact h
  | brk => exact h
  | next => exact up h
  | cont => exact up h
theorem loopT {c : Addr} {vs : List Value} {nn : Nat} {m₀ : Str → Option Value} {news : List (Addr × Obj)} (Led : σ → List (Addr × Obj)) (ps : σ → List (Str × Value)) (G : Nat → σ → Prop) (base : List (Addr × Obj)) (c₀ : σ)
    (hh : A.handled = none) (F : Fr h₀ env.locals s.heap m₀) (N : News h₀ env.locals s.heap news) (hm : (c, tupO vs nn) ∈ base) (hsub : ∀ p ∈ Led c₀ ++ base, p ∈ news) (hp : ∀ p ∈ ps c₀, m₀ p.1 = some p.2) (hG : G 0 c₀)
    (turn : ∀ i v (d : σ) (u : Str → Option Value) h tk I oI, vs[i]? = some v → (∀ p ∈ Led d ++ base, p.1 ≠ I) → G i d → Fr h₀ env.locals h (fun y => if y = x then some v else kstB u (ps d) y) → News h₀ env.locals h ((I, oI) :: (Led d ++ base)) →
      wpAny (model prog w) A (execs body env) (EndS Led ps (G (i + 1)) base h₀ env.locals I oI { s with heap := h, toks := tk } Q) E { s with heap := h, toks := tk })
    (done : ∀ (d : σ) (u : Str → Option Value) h tk, G vs.length d → Fr h₀ env.locals h (kstB u (ps d)) → News h₀ env.locals h (Led d ++ base) → Q .next { s with heap := h, toks := tk }) :
    wpAny (model prog w) A (pyIter (.ref c)) (fun it s₂ => LoopAtV prog w A h₀ env x body Q E it s₂) E s := by
  refine iterT (vs := vs) (nn := nn) (news := Led c₀ ++ base) (JS Led ps G base) hh (List.mem_append.mpr (.inr hm)) ?_ F (fun p hp => N p (hsub p hp)) ⟨c₀, rfl, hp, hG⟩ ?_ ?_
  · rintro i m nx ⟨d, rfl, _⟩; exact List.mem_append.mpr (.inr hm)
  · rintro i v m₁ nx h tk I oI hv hne ⟨d, rfl, hp', hG'⟩ F₁ N₁
    have e := kstB_self hp'
    rw [← e] at F₁
    exact wpAny_mono (turn i v d m₁ h tk I oI hv hne hG' F₁ N₁) (fun f s₂ p => endS_I (fun p hp => hne p (List.mem_append.mpr (.inr hp))) p) fun _ _ e => e
  · rintro m₁ nx h tk ⟨d, rfl, hp', hG'⟩ F₁ N₁
    exact done d m₁ h tk hG' (by rw [kstB_self hp']; exact F₁) N₁
theorem loopL {c : Addr} {vs : List Value} {nn : Nat} {m₀ : Str → Option Value} {news : List (Addr × Obj)} (Led : σ → List (Addr × Obj)) (ps : σ → List (Str × Value)) (G : Nat → σ → Prop) (base : List (Addr × Obj)) (c₀ : σ)
    (hh : A.handled = none) (F : Fr h₀ env.locals s.heap m₀) (N : News h₀ env.locals s.heap news) (hm : (c, listOf vs.toArray nn) ∈ base) (hsub : ∀ p ∈ Led c₀ ++ base, p ∈ news) (hp : ∀ p ∈ ps c₀, m₀ p.1 = some p.2) (hG : G 0 c₀)
    (turn : ∀ i v (d : σ) (u : Str → Option Value) h tk I oI, vs[i]? = some v → (∀ p ∈ Led d ++ base, p.1 ≠ I) → G i d → Fr h₀ env.locals h (fun y => if y = x then some v else kstB u (ps d) y) → News h₀ env.locals h ((I, oI) :: (Led d ++ base)) →
      wpAny (model prog w) A (execs body env) (EndS Led ps (G (i + 1)) base h₀ env.locals I oI { s with heap := h, toks := tk } Q) E { s with heap := h, toks := tk })
    (done : ∀ (d : σ) (u : Str → Option Value) h tk, G vs.length d → Fr h₀ env.locals h (kstB u (ps d)) → News h₀ env.locals h (Led d ++ base) → Q .next { s with heap := h, toks := tk }) :
    wpAny (model prog w) A (pyIter (.ref c)) (fun it s₂ => LoopAtV prog w A h₀ env x body Q E it s₂) E s := by
  refine iterL (vs := vs) (nn := nn) (news := Led c₀ ++ base) (JS Led ps G base) hh (List.mem_append.mpr (.inr hm)) ?_ F (fun p hp => N p (hsub p hp)) ⟨c₀, rfl, hp, hG⟩ ?_ ?_
  · rintro i m nx ⟨d, rfl, _⟩; exact List.mem_append.mpr (.inr hm)
  · rintro i v m₁ nx h tk I oI hv hne ⟨d, rfl, hp', hG'⟩ F₁ N₁
    have e := kstB_self hp'
    rw [← e] at F₁
    exact wpAny_mono (turn i v d m₁ h tk I oI hv hne hG' F₁ N₁) (fun f s₂ p => endS_I (fun p hp => hne p (List.mem_append.mpr (.inr hp))) p) fun _ _ e => e
  · rintro m₁ nx h tk ⟨d, rfl, hp', hG'⟩ F₁ N₁
    exact done d m₁ h tk hG' (by rw [kstB_self hp']; exact F₁) N₁
theorem loopR {r : Addr} {b₀ : Int} {t₀ u₀ v₀ : Tok} {n : Nat} {m₀ : Str → Option Value} {news : List (Addr × Obj)} (Led : σ → List (Addr × Obj)) (ps : σ → List (Str × Value)) (G : Nat → σ → Prop) (base : List (Addr × Obj)) (c₀ : σ)
    (hh : A.handled = none) (F : Fr h₀ env.locals s.heap m₀) (N : News h₀ env.locals s.heap news) (hr : IsRange s.heap r 0 b₀ 1 t₀ u₀ v₀) (hsmall : Builtin.Range.small 0 b₀ 1 = true) (hsz : Builtin.Range.rangeSize 0 b₀ 1 = (n : Int)) (hsub : ∀ p ∈ Led c₀ ++ base, p ∈ news) (hp : ∀ p ∈ ps c₀, m₀ p.1 = some p.2) (hG : G 0 c₀)
    (turn : ∀ i t (d : σ) (u : Str → Option Value) h tk I oI, i < n → (∀ p ∈ Led d ++ base, p.1 ≠ I) → G i d → Fr h₀ env.locals h (fun y => if y = x then some (.int (i : Int) t) else kstB u (ps d) y) → News h₀ env.locals h ((I, oI) :: (Led d ++ base)) →
      wpAny (model prog w) A (execs body env) (EndS Led ps (G (i + 1)) base h₀ env.locals I oI { s with heap := h, toks := tk } Q) E { s with heap := h, toks := tk })
    (done : ∀ (d : σ) (u : Str → Option Value) h tk, G n d → Fr h₀ env.locals h (kstB u (ps d)) → News h₀ env.locals h (Led d ++ base) → Q .next { s with heap := h, toks := tk }) :
    wpAny (model prog w) A (pyIter (.ref r)) (fun it s₂ => LoopAtV prog w A h₀ env x body Q E it s₂) E s := by
  refine iterR (news := Led c₀ ++ base) (JS Led ps G base) hh hr hsmall hsz F (fun p hp => N p (hsub p hp)) ⟨c₀, rfl, hp, hG⟩ ?_ ?_
  · rintro i t m₁ nx h tk I oI hi hne ⟨d, rfl, hp', hG'⟩ F₁ N₁
    have e := kstB_self hp'
    rw [← e] at F₁
    exact wpAny_mono (turn i t d m₁ h tk I oI hi hne hG' F₁ N₁) (fun f s₂ p => endS_I (fun p hp => hne p (List.mem_append.mpr (.inr hp))) p) fun _ _ e => e
  · rintro m₁ nx h tk ⟨d, rfl, hp', hG'⟩ F₁ N₁
    exact done d m₁ h tk hG' (by rw [kstB_self hp']; exact F₁) N₁
end
end
end

/-! the loops of edge_pairs, small rules -/
section
theorem ne_of_allLt {d : Addr} {l : List (Addr × Obj)} (h : AllLt d l) : ∀ p ∈ l, @Ne Nat p.1 d := by
  induction l with
  | nil => intro p hp; exact nomatch hp
  | cons q r ih =>
    intro p hp
    rcases List.mem_cons.mp hp with rfl | hp
    · exact Nat.ne_of_lt h.1
    · exact ih h.2 p hp
def cntRow (n : Int) (B : List Int) : Nat := (B.filter fun w => n != w).length
def cntA (A B : List Int) : Nat := (A.map fun n => cntRow n B).sum
theorem cntRow_le (n : Int) (B : List Int) : cntRow n B ≤ B.length := List.length_filter_le _ _
theorem cntRow_snoc {n z : Int} {B : List Int} {j : Nat} (h : B[j]? = some z) : cntRow n (B.take (j + 1)) = cntRow n (B.take j) + (if n != z then 1 else 0) := by
  unfold cntRow
  rw [List.take_add_one, h, List.filter_append, List.length_append]
  congr 1
  show (List.filter (fun w => n != w) [z]).length = _
  rw [List.filter_cons]
  split <;> rfl
theorem cntA_snoc {n : Int} {A B : List Int} {i : Nat} (h : A[i]? = some n) : cntA (A.take (i + 1)) B = cntA (A.take i) B + cntRow n B := by
  unfold cntA
  rw [List.take_add_one, h, List.map_append, List.sum_append]
  simp
section
variable {prog : Program} {w : World} {A' : Around} {E : Value → Shared → Prop} {s : Shared} {env : Env} {h₀ : Heap} {body : List Stmt} {Q : Flow → Shared → Prop}
theorem pairs_outer {P qa qb : Addr} {vsA vsB : List Value} {ka kb : Nat} {its0 : Array Value} {k0 : Nat} {news led' : List (Addr × Obj)} {A B : List Int} {m₀ : Str → Option Value}
    (hh : A'.handled = none) (F : Fr h₀ env.locals s.heap m₀) (N : News h₀ env.locals s.heap ((P, listOf its0 k0) :: led')) (hlt : AllLt P led') (h0 : its0.size = 0)
    (mP : m₀ "pairs" = some (.ref P)) (mB : m₀ "behind" = some (.ref qb)) (ha : (qa, tupO vsA ka) ∈ led') (hb : (qb, tupO vsB kb) ∈ led') (hn : ∀ p ∈ news, p ∈ led') (iA : IntsAre vsA A) (bA : A.length ≤ 3)
    (turn : ∀ i n t its k (u : Str → Option Value) h tk I oI, A[i]? = some n → i < 3 → its.size = cntA (A.take i) B → its.size ≤ 3 * i → @Ne Nat P I → @Ne Nat qb I → @Ne Nat qa I → (∀ p ∈ news, @Ne Nat p.1 I) → @Ne Nat qb P → @Ne Nat qa P → (∀ p ∈ news, @Ne Nat p.1 P) →
      Fr h₀ env.locals h (fun y => if y = Str.ofString "v" then some (.int n t) else kstB u [(Str.ofString "pairs", .ref P), (Str.ofString "behind", .ref qb)] y) → News h₀ env.locals h ((I, oI) :: (P, listOf its k) :: (qb, tupO vsB kb) :: (qa, tupO vsA ka) :: news) →
      wpAny (model prog w) A' (execs body env) (EndS (fun d : Array Value × Nat => [(P, listOf d.1 d.2)]) (fun _ => [(Str.ofString "pairs", .ref P), (Str.ofString "behind", .ref qb)]) (fun d => d.1.size = cntA (A.take (i + 1)) B ∧ d.1.size ≤ 3 * (i + 1)) ((qb, tupO vsB kb) :: (qa, tupO vsA ka) :: news) h₀ env.locals I oI { s with heap := h, toks := tk } Q) E { s with heap := h, toks := tk })
    (done : ∀ its k (u : Str → Option Value) h tk, its.size = cntA A B → its.size ≤ 9 → @Ne Nat qb P → @Ne Nat qa P → (∀ p ∈ news, @Ne Nat p.1 P) → Fr h₀ env.locals h (kstB u [(Str.ofString "pairs", .ref P), (Str.ofString "behind", .ref qb)]) → News h₀ env.locals h ((P, listOf its k) :: (qb, tupO vsB kb) :: (qa, tupO vsA ka) :: news) → Q .next { s with heap := h, toks := tk }) :
    wpAny (model prog w) A' (pyIter (.ref qa)) (fun it s₂ => LoopAtV prog w A' h₀ env (Str.ofString "v") body Q E it s₂) E s := by
  have hne := ne_of_allLt hlt
  refine loopT (vs := vsA) (nn := ka) (fun d : Array Value × Nat => [(P, listOf d.1 d.2)]) (fun _ => [(Str.ofString "pairs", .ref P), (Str.ofString "behind", .ref qb)]) (fun i d => d.1.size = cntA (A.take i) B ∧ d.1.size ≤ 3 * i) ((qb, tupO vsB kb) :: (qa, tupO vsA ka) :: news) (its0, k0) hh F N (.tail _ (.head _)) ?_ ?_ ⟨by simpa [cntA] using h0, by dsimp only; omega⟩ ?_ ?_
  · intro p hp
    rcases List.mem_append.mp hp with hp | hp
    · rw [List.mem_singleton.mp hp]; exact List.mem_cons_self ..
    · refine List.mem_cons_of_mem _ ?_
      rcases List.mem_cons.mp hp with rfl | hp
      · exact hb
      · rcases List.mem_cons.mp hp with rfl | hp
        · exact ha
        · exact hn p hp
  · intro p hp
    rcases List.mem_cons.mp hp with rfl | hp
    · exact mP
    · rw [List.mem_singleton.mp hp]; exact mB
  · rintro i v ⟨its, k⟩ u h tk I oI hv hI ⟨hG, hG2⟩ F₁ N₁
    have hi : i < A.length := by rw [← iA.length]; exact (List.getElem?_eq_some_iff.mp hv).1
    obtain ⟨t, hx⟩ := iA.get i A[i] (List.getElem?_eq_getElem hi)
    rw [hx] at hv
    cases hv
    exact turn i _ t its k u h tk I oI (List.getElem?_eq_getElem hi) (by omega) hG hG2 (hI (P, listOf its k) (.head _)) (hI (qb, tupO vsB kb) (.tail _ (.head _))) (hI (qa, tupO vsA ka) (.tail _ (.tail _ (.head _)))) (fun p hp => hI p (.tail _ (.tail _ (.tail _ hp)))) (hne _ hb) (hne _ ha) (fun p hp => hne p (hn p hp)) F₁ N₁
  · rintro ⟨its, k⟩ u h tk ⟨hG, hG2⟩ F₁ N₁
    rw [iA.length, List.take_length] at hG
    rw [iA.length] at hG2
    exact done its k u h tk hG (by dsimp only at hG2 ⊢; omega) (hne _ hb) (hne _ ha) (fun p hp => hne p (hn p hp)) F₁ N₁
theorem pairs_inner {P qb I₁ : Addr} {oI₁ : Obj} {vsB : List Value} {kb : Nat} {its0 : Array Value} {k0 : Nat} {base : List (Addr × Obj)} {B : List Int} {m₀ : Str → Option Value} {n : Int} {t : Tok}
    (hh : A'.handled = none) (F : Fr h₀ env.locals s.heap m₀) (N : News h₀ env.locals s.heap ((I₁, oI₁) :: (P, listOf its0 k0) :: base))
    (mP : m₀ "pairs" = some (.ref P)) (mB : m₀ "behind" = some (.ref qb)) (mV : m₀ "v" = some (.int n t)) (hb : (qb, tupO vsB kb) ∈ base) (iB : IntsAre vsB B) (bB : B.length ≤ 3)
    (turn : ∀ j z tz its k (u : Str → Option Value) h tk I oI, B[j]? = some z → j < 3 → its.size = its0.size + cntRow n (B.take j) → its.size ≤ its0.size + j → @Ne Nat P I → @Ne Nat I₁ I → (∀ p ∈ base, @Ne Nat p.1 I) →
      Fr h₀ env.locals h (fun y => if y = Str.ofString "w" then some (.int z tz) else kstB u [(Str.ofString "pairs", .ref P), (Str.ofString "behind", .ref qb), (Str.ofString "v", .int n t)] y) → News h₀ env.locals h ((I, oI) :: (P, listOf its k) :: (I₁, oI₁) :: base) →
      wpAny (model prog w) A' (execs body env) (EndS (fun d : Array Value × Nat => [(P, listOf d.1 d.2)]) (fun _ => [(Str.ofString "pairs", .ref P), (Str.ofString "behind", .ref qb), (Str.ofString "v", .int n t)]) (fun d => d.1.size = its0.size + cntRow n (B.take (j + 1)) ∧ d.1.size ≤ its0.size + (j + 1)) ((I₁, oI₁) :: base) h₀ env.locals I oI { s with heap := h, toks := tk } Q) E { s with heap := h, toks := tk })
    (done : ∀ its k (u : Str → Option Value) h tk, its.size = its0.size + cntRow n B → its.size ≤ its0.size + 3 → Fr h₀ env.locals h (kstB u [(Str.ofString "pairs", .ref P), (Str.ofString "behind", .ref qb), (Str.ofString "v", .int n t)]) → News h₀ env.locals h ((P, listOf its k) :: (I₁, oI₁) :: base) → Q .next { s with heap := h, toks := tk }) :
    wpAny (model prog w) A' (pyIter (.ref qb)) (fun it s₂ => LoopAtV prog w A' h₀ env (Str.ofString "w") body Q E it s₂) E s := by
  refine loopT (vs := vsB) (nn := kb) (fun d : Array Value × Nat => [(P, listOf d.1 d.2)]) (fun _ => [(Str.ofString "pairs", .ref P), (Str.ofString "behind", .ref qb), (Str.ofString "v", .int n t)]) (fun j d => d.1.size = its0.size + cntRow n (B.take j) ∧ d.1.size ≤ its0.size + j) ((I₁, oI₁) :: base) (its0, k0) hh F N (List.mem_cons_of_mem _ hb) ?_ ?_ ⟨by simp [cntRow], by simp⟩ ?_ ?_
  · intro p hp
    rcases List.mem_append.mp hp with hp | hp
    · rw [List.mem_singleton.mp hp]; exact .tail _ (.head _)
    · rcases List.mem_cons.mp hp with rfl | hp
      · exact .head _
      · exact .tail _ (.tail _ hp)
  · intro p hp
    rcases List.mem_cons.mp hp with rfl | hp
    · exact mP
    · rcases List.mem_cons.mp hp with rfl | hp
      · exact mB
      · rw [List.mem_singleton.mp hp]; exact mV
  · rintro i v ⟨its, k⟩ u h tk I oI hv hI ⟨hG, hG2⟩ F₁ N₁
    have hi : i < B.length := by rw [← iB.length]; exact (List.getElem?_eq_some_iff.mp hv).1
    obtain ⟨tz, hx⟩ := iB.get i B[i] (List.getElem?_eq_getElem hi)
    rw [hx] at hv
    cases hv
    exact turn i _ tz its k u h tk I oI (List.getElem?_eq_getElem hi) (by omega) hG hG2 (hI (P, listOf its k) (.head _)) (hI (I₁, oI₁) (.tail _ (.head _))) (fun p hp => hI p (.tail _ (.tail _ hp))) F₁ N₁
  · rintro ⟨its, k⟩ u h tk ⟨hG, hG2⟩ F₁ N₁
    rw [iB.length, List.take_length] at hG
    rw [iB.length] at hG2
    exact done its k u h tk hG (by dsimp only at hG2 ⊢; omega) F₁ N₁
end
theorem news_tail {h₀ h : Heap} {L : Addr} {p : Addr × Obj} {r : List (Addr × Obj)} (N : News h₀ L h (p :: r)) : News h₀ L h r := fun q hq => N q (.tail _ hq)
theorem news_swap {h₀ h : Heap} {L : Addr} {p q : Addr × Obj} {r : List (Addr × Obj)} (N : News h₀ L h (p :: q :: r)) : News h₀ L h (q :: p :: r) := fun x hx => by
  rcases List.mem_cons.mp hx with rfl | hx
  · exact N _ (.tail _ (.head _))
  · rcases List.mem_cons.mp hx with rfl | hx
    · exact N _ (.head _)
    · exact N _ (.tail _ (.tail _ hx))
theorem in1 {its its2 : Array Value} {v : Value} {n z : Int} {B : List Int} {j : Nat} (h : its2.size = its.size + cntRow n (B.take j)) (h2 : its2.size ≤ its.size + j) (hB : B[j]? = some z) (hn : n ≠ z) :
    (its2.push v).size = its.size + cntRow n (B.take (j + 1)) ∧ (its2.push v).size ≤ its.size + (j + 1) := by
  rw [Array.size_push, cntRow_snoc hB, if_pos (bne_iff_ne.mpr hn)]; omega
theorem in2 {its its2 : Array Value} {n z : Int} {B : List Int} {j : Nat} (h : its2.size = its.size + cntRow n (B.take j)) (h2 : its2.size ≤ its.size + j) (hB : B[j]? = some z) (hn : n = z) :
    its2.size = its.size + cntRow n (B.take (j + 1)) ∧ its2.size ≤ its.size + (j + 1) := by
  subst hn
  rw [cntRow_snoc hB, if_neg (by simp)]; omega
theorem out1 {its its2 : Array Value} {n : Int} {A B : List Int} {i : Nat} (h : its.size = cntA (A.take i) B) (h2 : its.size ≤ 3 * i) (h3 : its2.size = its.size + cntRow n B) (h4 : its2.size ≤ its.size + 3) (hA : A[i]? = some n) :
    its2.size = cntA (A.take (i + 1)) B ∧ its2.size ≤ 3 * (i + 1) := by
  rw [cntA_snoc hA]; omega
theorem lt_sub {d : Addr} {l r : List (Addr × Obj)} (h : ∀ p ∈ l, p.1 < d) (hs : ∀ p ∈ r, p ∈ l) : ∀ p ∈ r, p.1 < d := fun p hp => h p (hs p hp)
theorem news_head {h₀ h : Heap} {L : Addr} {p : Addr × Obj} {l r : List (Addr × Obj)} (N : News h₀ L h (p :: l)) (hs : ∀ q ∈ r, q ∈ l) : News h₀ L h (p :: r) := fun x hx => by
  rcases List.mem_cons.mp hx with rfl | hx
  · exact N _ (.head _)
  · exact N _ (.tail _ (hs _ hx))
theorem allLt_lt {d : Addr} {l : List (Addr × Obj)} (h : AllLt d l) : ∀ p ∈ l, p.1 < d := by
  induction l with
  | nil => intro p hp; exact nomatch hp
  | cons q r ih =>
    intro p hp
    rcases List.mem_cons.mp hp with rfl | hp
    · exact h.1
    · exact ih h.2 p hp
theorem cnt_empty {a b : Str} (ha : a ∈ levs) (hb : b ∈ levs) : (cntA (codes a) (codes b) = 0) ↔ emptyV a b = true := by
  simp only [List.mem_cons, List.not_mem_nil, or_false] at ha hb
  rcases ha with rfl | rfl | rfl | rfl | rfl <;> rcases hb with rfl | rfl | rfl | rfl | rfl <;> decide +kernel
theorem fin_empty {a b : Str} {vs : List Value} (ha : a ∈ levs) (hb : b ∈ levs) (h : vs.length = cntA (codes a) (codes b)) : ((vs.length : Int) == 0) = emptyV a b := by
  have e := cnt_empty ha hb
  rw [← h] at e
  cases hE : emptyV a b with
  | true => rw [e.mpr hE]; rfl
  | false =>
    have : vs.length ≠ 0 := fun q => by rw [e.mp q] at hE; cases hE
    exact beq_eq_false_iff_ne.mpr (by omega)
theorem codes_len {a : Str} : (codes a).length ≤ 3 := by
  unfold codes; repeat' split
  all_goals decide
/-- a row of letters -/
inductive LtsIn (news : List (Addr × Obj)) : List Value → List Lt → Prop where
  | nil : LtsIn news [] []
  | cons {v : Value} {vs : List Value} {l : Lt} {ls : List Lt} : LtIn news v l → LtsIn news vs ls → LtsIn news (v :: vs) (l :: ls)
theorem LtsIn.length {news : List (Addr × Obj)} {vs : List Value} {ls : List Lt} (h : LtsIn news vs ls) : vs.length = ls.length := by
  induction h with
  | nil => rfl
  | cons _ _ ih => rw [List.length_cons, List.length_cons, ih]
theorem LtsIn.mono {news news' : List (Addr × Obj)} {vs : List Value} {ls : List Lt} (h : LtsIn news vs ls) (hs : ∀ p ∈ news, p ∈ news') : LtsIn news' vs ls := by
  induction h with
  | nil => exact .nil
  | cons h _ ih => exact .cons (h.mono hs) ih
theorem LtsIn.get {news : List (Addr × Obj)} {vs : List Value} {ls : List Lt} (h : LtsIn news vs ls) : ∀ {i : Nat} {v : Value}, vs[i]? = some v → ∃ l, ls[i]? = some l ∧ LtIn news v l := by
  induction h with
  | nil => intro i v e; simp at e
  | cons h _ ih =>
    intro i v e
    cases i with
    | zero => exact ⟨_, rfl, by simp at e; exact e ▸ h⟩
    | succ i => exact ih (by simpa using e)
theorem LtsIn.append {news : List (Addr × Obj)} {vs ws : List Value} {ls ks : List Lt} (h : LtsIn news vs ls) (k : LtsIn news ws ks) : LtsIn news (vs ++ ws) (ls ++ ks) := by
  induction h with
  | nil => exact k
  | cons h _ ih => exact .cons h ih
abbrev LsOk (ls : List Lt) : Prop := ∀ l ∈ ls, l.Ok
def cntE (ls : List Lt) : Int := (ls.countP Lt.isEdge : Int)
theorem cntE_snoc1 {ls : List Lt} {i : Nat} {l : Lt} (h : ls[i]? = some l) (e : l.isEdge = true) : cntE (ls.take (i + 1)) = cntE (ls.take i) + 1 := by
  unfold cntE
  rw [List.take_add_one, h, List.countP_append]
  show ((_ + List.countP Lt.isEdge [l] : Nat) : Int) = _
  rw [List.countP_cons, e]; simp
theorem cntE_snoc0 {ls : List Lt} {i : Nat} {l : Lt} (h : ls[i]? = some l) (e : l.isEdge = false) : cntE (ls.take (i + 1)) = cntE (ls.take i) := by
  unfold cntE
  rw [List.take_add_one, h, List.countP_append]
  show ((_ + List.countP Lt.isEdge [l] : Nat) : Int) = _
  rw [List.countP_cons, e]; simp
theorem tupleOfL {prog : Program} {w : World} {A : Around} {E : Value → Shared → Prop} {s : Shared} {h₀ : Heap} {L l : Addr} {m : Str → Option Value} {news : List (Addr × Obj)} {vs : List Value} {nn : Nat} {Q : Value → Shared → Prop} (F : Fr h₀ L s.heap m) (N : News h₀ L s.heap news)
    (hl : (l, listOf vs.toArray nn) ∈ news) (hz : vs.length ≤ 16384) (h : ∀ D h', Fr h₀ L h' m → News h₀ L h' ((D, tupO vs 0) :: news) → (∀ p ∈ news, p.1 < D) → Q (.ref D) { s with heap := h' }) : wpAny (model prog w) A (call (.type "tuple") [.ref l]) Q E s :=
  kde_tupleOf F N (News.isList N hl) (by rw [List.size_toArray]; exact hz) List.toList_toArray h
theorem lenT {prog : Program} {w : World} {A : Around} {E : Value → Shared → Prop} {s : Shared} {h₀ : Heap} {L l : Addr} {news : List (Addr × Obj)} {vs : List Value} {nn : Nat} {Q : Value → Shared → Prop} (N : News h₀ L s.heap news)
    (hl : (l, tupO vs nn) ∈ news) (hz : vs.length ≤ 16384) (h : Q (.int (vs.length : Int) (s.toks + 1)) { s with toks := s.toks + 1 + 1 }) : wpAny (model prog w) A (call (.builtin "len") [.ref l]) Q E s := by
  have e : vs.toArray.size = vs.length := List.size_toArray
  exact PyProof.Rows.len_tuple (News.isTup N hl) (by rw [e]; omega) (by rw [e]; exact h)
theorem lenL {prog : Program} {w : World} {A : Around} {E : Value → Shared → Prop} {s : Shared} {h₀ : Heap} {L l : Addr} {news : List (Addr × Obj)} {vs : List Value} {nn : Nat} {Q : Value → Shared → Prop} (N : News h₀ L s.heap news)
    (hl : (l, listOf vs.toArray nn) ∈ news) (hz : vs.length ≤ 16384) (h : Q (.int (vs.length : Int) (s.toks + 1)) { s with toks := s.toks + 1 + 1 }) : wpAny (model prog w) A (call (.builtin "len") [.ref l]) Q E s := by
  have e : vs.toArray.size = vs.length := List.size_toArray
  exact PyProof.Rows.len_list (News.isList N hl) (by rw [e]; omega) (by rw [e]; exact h)
end

/-! the kinds, the loop that grows them, comparisons -/
section
def preL (n c : Nat) (kept : Bool) (ls : List Lt) (out : Str) : List Str :=
  (if (n : Int) ≠ (c : Int) then [Str.ofString "row_size"] else []) ++ (if kept = true then (if 1 < cntE ls then [Str.ofString "two_edges"] else []) else (if 0 < cntE ls then [Str.ofString "edge_in_combinational"] else []) ++ (if (out == Str.ofString "-") = true then [Str.ofString "dash_in_combinational"] else []))
theorem preL_0000 {n c : Nat} {kept : Bool} {ls : List Lt} {out : Str} (h1 : (n : Int) = (c : Int)) (h2 : kept = false) (h3 : ¬ 0 < cntE ls) (h4 : (out == Str.ofString "-") = false) : preL n c kept ls out = [] := by unfold preL; subst h2; simp [h1, h3, h4]
theorem preL_0001 {n c : Nat} {kept : Bool} {ls : List Lt} {out : Str} (h1 : (n : Int) = (c : Int)) (h2 : kept = false) (h3 : ¬ 0 < cntE ls) (h4 : (out == Str.ofString "-") = true) : preL n c kept ls out = [Str.ofString "dash_in_combinational"] := by unfold preL; subst h2; simp [h1, h3, h4]
theorem preL_0010 {n c : Nat} {kept : Bool} {ls : List Lt} {out : Str} (h1 : (n : Int) = (c : Int)) (h2 : kept = false) (h3 : 0 < cntE ls) (h4 : (out == Str.ofString "-") = false) : preL n c kept ls out = [Str.ofString "edge_in_combinational"] := by unfold preL; subst h2; simp [h1, h3, h4]
theorem preL_0011 {n c : Nat} {kept : Bool} {ls : List Lt} {out : Str} (h1 : (n : Int) = (c : Int)) (h2 : kept = false) (h3 : 0 < cntE ls) (h4 : (out == Str.ofString "-") = true) : preL n c kept ls out = [Str.ofString "edge_in_combinational", Str.ofString "dash_in_combinational"] := by unfold preL; subst h2; simp [h1, h3, h4]
theorem preL_010 {n c : Nat} {kept : Bool} {ls : List Lt} {out : Str} (h1 : (n : Int) = (c : Int)) (h2 : kept = true) (h3 : ¬ 1 < cntE ls) : preL n c kept ls out = [] := by unfold preL; subst h2; simp [h1, h3]
theorem preL_011 {n c : Nat} {kept : Bool} {ls : List Lt} {out : Str} (h1 : (n : Int) = (c : Int)) (h2 : kept = true) (h3 : 1 < cntE ls) : preL n c kept ls out = [Str.ofString "two_edges"] := by unfold preL; subst h2; simp [h1, h3]
theorem preL_1000 {n c : Nat} {kept : Bool} {ls : List Lt} {out : Str} (h1 : (n : Int) ≠ (c : Int)) (h2 : kept = false) (h3 : ¬ 0 < cntE ls) (h4 : (out == Str.ofString "-") = false) : preL n c kept ls out = [Str.ofString "row_size"] := by unfold preL; subst h2; simp [h1, h3, h4]
theorem preL_1001 {n c : Nat} {kept : Bool} {ls : List Lt} {out : Str} (h1 : (n : Int) ≠ (c : Int)) (h2 : kept = false) (h3 : ¬ 0 < cntE ls) (h4 : (out == Str.ofString "-") = true) : preL n c kept ls out = [Str.ofString "row_size", Str.ofString "dash_in_combinational"] := by unfold preL; subst h2; simp [h1, h3, h4]
theorem preL_1010 {n c : Nat} {kept : Bool} {ls : List Lt} {out : Str} (h1 : (n : Int) ≠ (c : Int)) (h2 : kept = false) (h3 : 0 < cntE ls) (h4 : (out == Str.ofString "-") = false) : preL n c kept ls out = [Str.ofString "row_size", Str.ofString "edge_in_combinational"] := by unfold preL; subst h2; simp [h1, h3, h4]
theorem preL_1011 {n c : Nat} {kept : Bool} {ls : List Lt} {out : Str} (h1 : (n : Int) ≠ (c : Int)) (h2 : kept = false) (h3 : 0 < cntE ls) (h4 : (out == Str.ofString "-") = true) : preL n c kept ls out = [Str.ofString "row_size", Str.ofString "edge_in_combinational", Str.ofString "dash_in_combinational"] := by unfold preL; subst h2; simp [h1, h3, h4]
theorem preL_110 {n c : Nat} {kept : Bool} {ls : List Lt} {out : Str} (h1 : (n : Int) ≠ (c : Int)) (h2 : kept = true) (h3 : ¬ 1 < cntE ls) : preL n c kept ls out = [Str.ofString "row_size"] := by unfold preL; subst h2; simp [h1, h3]
theorem preL_111 {n c : Nat} {kept : Bool} {ls : List Lt} {out : Str} (h1 : (n : Int) ≠ (c : Int)) (h2 : kept = true) (h3 : 1 < cntE ls) : preL n c kept ls out = [Str.ofString "row_size", Str.ofString "two_edges"] := by unfold preL; subst h2; simp [h1, h3]
def cntP (pr : Lt → Bool) (ls : List Lt) : Nat := ls.countP pr
/-- what the loop over the letters has made of the kinds -/
def GK (pr : Lt → Bool) (pre : List Str) (ls : List Lt) (i : Nat) (d : Array Value × Nat) : Prop :=
  StrsAre d.1.toList (pre ++ List.replicate (cntP pr (ls.take i)) (Str.ofString "empty_edge")) ∧ d.1.size ≤ 3 + i
theorem cntP_snoc {pr : Lt → Bool} {ls : List Lt} {i : Nat} {l : Lt} (h : ls[i]? = some l) : cntP pr (ls.take (i + 1)) = cntP pr (ls.take i) + (if pr l = true then 1 else 0) := by
  unfold cntP
  rw [List.take_add_one, h, List.countP_append]
  show _ + List.countP pr [l] = _
  rw [List.countP_cons]; simp
theorem gk_push {pr : Lt → Bool} {pre : List Str} {ls : List Lt} {i : Nat} {its : Array Value} {k k' : Nat} {l : Lt} {t : Tok} (h : GK pr pre ls i (its, k)) (hl : ls[i]? = some l) (hp : pr l = true) : GK pr pre ls (i + 1) (its.push (.str (Str.ofString "empty_edge") t), k') := by
  obtain ⟨h1, h2⟩ := h
  dsimp only at h1 h2
  refine ⟨?_, ?_⟩
  · dsimp only
    rw [cntP_snoc hl, if_pos hp, List.replicate_succ', ← List.append_assoc, Array.toList_push]
    exact h1.append' (.cons _ _ .nil)
  · dsimp only
    rw [Array.size_push]; omega
theorem gk_same {pr : Lt → Bool} {pre : List Str} {ls : List Lt} {i : Nat} {its : Array Value} {k : Nat} {l : Lt} (h : GK pr pre ls i (its, k)) (hl : ls[i]? = some l) (hp : pr l = false) : GK pr pre ls (i + 1) (its, k) := by
  obtain ⟨h1, h2⟩ := h
  dsimp only at h1 h2
  refine ⟨?_, ?_⟩
  · dsimp only
    rw [cntP_snoc hl, if_neg (by rw [hp]; exact Bool.false_ne_true)]; exact h1
  · dsimp only; omega
section
variable {prog : Program} {w : World} {A' : Around} {E : Value → Shared → Prop} {s : Shared} {env : Env} {h₀ : Heap} {body : List Stmt} {x : Str} {Q : Flow → Shared → Prop}
theorem kinds_loopT {K c : Addr} {its0 : Array Value} {k0 : Nat} {vs : List Value} {nn : Nat} {ls : List Lt} {base led' : List (Addr × Obj)} {m₀ : Str → Option Value} (pr : Lt → Bool) (pre : List Str)
    (hh : A'.handled = none) (F : Fr h₀ env.locals s.heap m₀) (N : News h₀ env.locals s.heap led') (hlt : ∀ p ∈ base, @Ne Nat p.1 K) (mK : m₀ (Str.ofString "kinds") = some (.ref K)) (hK : (K, listOf its0 k0) ∈ led') (hc : (c, tupO vs nn) ∈ base) (hb : ∀ p ∈ base, p ∈ led') (hv : LtsIn base vs ls) (hz : vs.length ≤ 8) (h0 : StrsAre its0.toList pre) (hs0 : its0.size ≤ 3)
    (turn : ∀ i v l its k (u : Str → Option Value) h tk I oI, ls[i]? = some l → l ∈ ls → LtIn base v l → its.size ≤ 11 → GK pr pre ls i (its, k) → @Ne Nat K I → (∀ p ∈ base, @Ne Nat p.1 I) → (∀ p ∈ base, @Ne Nat p.1 K) →
      Fr h₀ env.locals h (fun y => if y = x then some v else kstB u [(Str.ofString "kinds", .ref K)] y) → News h₀ env.locals h ((I, oI) :: (K, listOf its k) :: base) →
      wpAny (model prog w) A' (execs body env) (EndS (fun d : Array Value × Nat => [(K, listOf d.1 d.2)]) (fun _ => [(Str.ofString "kinds", .ref K)]) (GK pr pre ls (i + 1)) base h₀ env.locals I oI { s with heap := h, toks := tk } Q) E { s with heap := h, toks := tk })
    (done : ∀ its k (u : Str → Option Value) h tk, StrsAre its.toList (pre ++ List.replicate (cntP pr ls) (Str.ofString "empty_edge")) → its.size ≤ 11 → (∀ p ∈ base, @Ne Nat p.1 K) → Fr h₀ env.locals h (kstB u [(Str.ofString "kinds", .ref K)]) → News h₀ env.locals h ((K, listOf its k) :: base) → Q .next { s with heap := h, toks := tk }) :
    wpAny (model prog w) A' (pyIter (.ref c)) (fun it s₂ => LoopAtV prog w A' h₀ env x body Q E it s₂) E s := by
  refine loopT (vs := vs) (nn := nn) (fun d : Array Value × Nat => [(K, listOf d.1 d.2)]) (fun _ => [(Str.ofString "kinds", .ref K)]) (GK pr pre ls) base (its0, k0) hh F N hc ?_ (by intro p hp; rw [List.mem_singleton.mp hp]; exact mK) ⟨by simpa [cntP] using h0, by dsimp only; omega⟩ ?_ ?_
  · intro p hp
    rcases List.mem_append.mp hp with hp | hp
    · rw [List.mem_singleton.mp hp]; exact hK
    · exact hb p hp
  · rintro i v ⟨its, k⟩ u h tk I oI hvi hI hG F₁ N₁
    obtain ⟨l, hl, hin⟩ := hv.get hvi
    have hi : i < vs.length := (List.getElem?_eq_some_iff.mp hvi).1
    exact turn i v l its k u h tk I oI hl (List.mem_of_getElem? hl) hin (by have := hG.2; dsimp only at this; omega) hG (hI (K, listOf its k) (.head _)) (fun p hp => hI p (.tail _ hp)) hlt F₁ N₁
  · rintro ⟨its, k⟩ u h tk ⟨hG, hG2⟩ F₁ N₁
    rw [hv.length, List.take_length] at hG
    exact done its k u h tk hG (by dsimp only at hG2; omega) hlt F₁ N₁
theorem kinds_loopL {K c : Addr} {its0 : Array Value} {k0 : Nat} {vs : List Value} {nn : Nat} {ls : List Lt} {base led' : List (Addr × Obj)} {m₀ : Str → Option Value} (pr : Lt → Bool) (pre : List Str)
    (hh : A'.handled = none) (F : Fr h₀ env.locals s.heap m₀) (N : News h₀ env.locals s.heap led') (hlt : ∀ p ∈ base, @Ne Nat p.1 K) (mK : m₀ (Str.ofString "kinds") = some (.ref K)) (hK : (K, listOf its0 k0) ∈ led') (hc : (c, listOf vs.toArray nn) ∈ base) (hb : ∀ p ∈ base, p ∈ led') (hv : LtsIn base vs ls) (hz : vs.length ≤ 8) (h0 : StrsAre its0.toList pre) (hs0 : its0.size ≤ 3)
    (turn : ∀ i v l its k (u : Str → Option Value) h tk I oI, ls[i]? = some l → l ∈ ls → LtIn base v l → its.size ≤ 11 → GK pr pre ls i (its, k) → @Ne Nat K I → (∀ p ∈ base, @Ne Nat p.1 I) → (∀ p ∈ base, @Ne Nat p.1 K) →
      Fr h₀ env.locals h (fun y => if y = x then some v else kstB u [(Str.ofString "kinds", .ref K)] y) → News h₀ env.locals h ((I, oI) :: (K, listOf its k) :: base) →
      wpAny (model prog w) A' (execs body env) (EndS (fun d : Array Value × Nat => [(K, listOf d.1 d.2)]) (fun _ => [(Str.ofString "kinds", .ref K)]) (GK pr pre ls (i + 1)) base h₀ env.locals I oI { s with heap := h, toks := tk } Q) E { s with heap := h, toks := tk })
    (done : ∀ its k (u : Str → Option Value) h tk, StrsAre its.toList (pre ++ List.replicate (cntP pr ls) (Str.ofString "empty_edge")) → its.size ≤ 11 → (∀ p ∈ base, @Ne Nat p.1 K) → Fr h₀ env.locals h (kstB u [(Str.ofString "kinds", .ref K)]) → News h₀ env.locals h ((K, listOf its k) :: base) → Q .next { s with heap := h, toks := tk }) :
    wpAny (model prog w) A' (pyIter (.ref c)) (fun it s₂ => LoopAtV prog w A' h₀ env x body Q E it s₂) E s := by
  refine loopL (vs := vs) (nn := nn) (fun d : Array Value × Nat => [(K, listOf d.1 d.2)]) (fun _ => [(Str.ofString "kinds", .ref K)]) (GK pr pre ls) base (its0, k0) hh F N hc ?_ (by intro p hp; rw [List.mem_singleton.mp hp]; exact mK) ⟨by simpa [cntP] using h0, by dsimp only; omega⟩ ?_ ?_
  · intro p hp
    rcases List.mem_append.mp hp with hp | hp
    · rw [List.mem_singleton.mp hp]; exact hK
    · exact hb p hp
  · rintro i v ⟨its, k⟩ u h tk I oI hvi hI hG F₁ N₁
    obtain ⟨l, hl, hin⟩ := hv.get hvi
    have hi : i < vs.length := (List.getElem?_eq_some_iff.mp hvi).1
    exact turn i v l its k u h tk I oI hl (List.mem_of_getElem? hl) hin (by have := hG.2; dsimp only at this; omega) hG (hI (K, listOf its k) (.head _)) (fun p hp => hI p (.tail _ hp)) hlt F₁ N₁
  · rintro ⟨its, k⟩ u h tk ⟨hG, hG2⟩ F₁ N₁
    rw [hv.length, List.take_length] at hG
    exact done its k u h tk hG (by dsimp only at hG2; omega) hlt F₁ N₁
end
theorem emp_t {n : Nat} {b : Bool} (h : ((n : Int) == 0) = b) (e : (n : Int) = 0) : b = true := by rw [← h, e]; rfl
theorem emp_f {n : Nat} {b : Bool} (h : ((n : Int) == 0) = b) (e : (n : Int) ≠ 0) : b = false := by rw [← h]; exact beq_eq_false_iff_ne.mpr e
def Lt.bad (l : Lt) : Bool := l.isEdge && l.empty
theorem bad_t {l : Lt} (h : l.isEdge = true) (e : l.empty = true) : l.bad = true := by unfold Lt.bad; rw [h, e]; rfl
theorem bad_f {l : Lt} (e : l.empty = false) : l.bad = false := by unfold Lt.bad; rw [e, Bool.and_false]
theorem bad_n {l : Lt} (h : l.isEdge = false) : l.bad = false := by unfold Lt.bad; rw [h]; rfl
/-- the kinds that are due -/
def faults (n c : Nat) (kept : Bool) (ls : List Lt) (out : Str) : List Str := preL n c kept ls out ++ List.replicate (cntP Lt.bad ls) (Str.ofString "empty_edge")
theorem cnt_filter (ls : List Lt) : cntP Lt.empty (ls.filter Lt.isEdge) = cntP Lt.bad ls := by
  unfold cntP
  induction ls with
  | nil => rfl
  | cons l r ih =>
    rw [List.filter_cons, List.countP_cons]
    by_cases h : l.isEdge = true
    · rw [if_pos h, List.countP_cons, ih]
      unfold Lt.bad; rw [h, Bool.true_and]
    · rw [if_neg h, ih]
      have h' : l.isEdge = false := by simpa using h
      rw [bad_n h']; rfl
theorem cntE_filter (ls : List Lt) : ((ls.filter Lt.isEdge).length : Int) = cntE ls := by
  unfold cntE; rw [List.countP_eq_length_filter]
theorem preL_of {n c : Nat} {kept : Bool} {ls : List Lt} {out : Str} {r : List Str} {its : Array Value} (h : preL n c kept ls out = r) (hs : StrsAre its.toList r) : StrsAre its.toList (preL n c kept ls out) := h ▸ hs
def datOf : Lt → Dat
  | .sym x => .str x
  | .edge a b => .tuple [.str (Str.ofString "edge"), .str a, .str b]
theorem LtIn.dat {news : List (Addr × Obj)} {v : Value} {l : Lt} (h : LtIn news v l) : DatIn news v (datOf l) := by
  cases h with
  | sym x t => exact .str x t
  | edge hx hm => subst hx; exact .tuple hm (.cons (.str _ _) (.cons (.str _ _) (.cons (.str _ _) .nil)))
theorem LtsIn.dat {news : List (Addr × Obj)} {vs : List Value} {ls : List Lt} (h : LtsIn news vs ls) : DatAll news vs (ls.map datOf) := by
  induction h with
  | nil => exact .nil
  | cons h _ ih => exact .cons h.dat ih
theorem strOk_syms : ∀ x ∈ syms, PyData.strOk x = true := by decide +kernel
theorem strOk_levs : ∀ x ∈ levs, PyData.strOk x = true := by decide +kernel
theorem strOk_edge : PyData.strOk (Str.ofString "edge") = true := by decide +kernel
theorem datOf_ok {l : Lt} (h : l.Ok) : kqdOk 8 (datOf l) = true := by
  cases l with
  | sym x => exact strOk_syms x h
  | edge a b =>
    show ([Dat.str (Str.ofString "edge"), Dat.str a, Dat.str b].all (kqdOk 7)) = true
    simp only [List.all_cons, List.all_nil, kqdOk, strOk_edge, strOk_levs a h.1, strOk_levs b h.2, Bool.and_self]
theorem datsOf_ok {ls : List Lt} (h : LsOk ls) : ∀ d ∈ ls.map datOf, kqdOk 8 d = true := by
  intro d hd
  obtain ⟨l, hl, rfl⟩ := List.mem_map.mp hd
  exact datOf_ok (h l hl)
open Classical in
theorem ne_nil {prog : Program} {w : World} {A : Around} {E : Value → Shared → Prop} {s : Shared} {h₀ : Heap} {L a b : Addr} {led news : List (Addr × Obj)} {ys : List Value} {ls : List Lt} {ka kb : Nat} {Q : Value → Shared → Prop} (N : News h₀ L s.heap led)
    (ma : (a, listOf ys.toArray ka) ∈ led) (mb : (b, listOf ([] : List Value).toArray kb) ∈ led) (hy : LtsIn news ys (ls.filter Lt.isEdge)) (hs : ∀ p ∈ news, p ∈ led) (hok : LsOk ls) (hu : A.units + 64 < cLine) (h : Q (.bool (decide (0 < cntE ls))) s) :
    wpAny (model prog w) A (compareOp .NotEq (.ref a) (.ref b)) Q E s := by
  refine kqd_ne (n₁ := news) (n₂ := []) (ds := (ls.filter Lt.isEdge).map datOf) (es := []) N ma rfl rfl hy.dat hs mb rfl rfl .nil (fun _ hp => nomatch hp) (datsOf_ok fun l hl => hok l (List.mem_filter.mp hl).1) (fun _ hp => nomatch hp) hu ?_
  by_cases hp : (ls.filter Lt.isEdge).map datOf = []
  · rw [decide_eq_true hp]
    rw [decide_eq_false (by rw [← cntE_filter, List.map_eq_nil_iff.mp hp]; decide)] at h
    exact h
  · rw [decide_eq_false hp]
    rw [decide_eq_true (by
      have := List.length_pos_iff.mpr fun z => hp (List.map_eq_nil_iff.mpr z)
      rw [← cntE_filter]; omega)] at h
    exact h
theorem strs_dat {news : List (Addr × Obj)} {vs : List Value} {xs : List Str} (h : StrsAre vs xs) : DatAll news vs (xs.map Dat.str) := by
  induction h with
  | nil => exact .nil
  | cons y t _ ih => exact .cons (.str _ _) ih
theorem faults_ok {n c : Nat} {kept : Bool} {ls : List Lt} {out : Str} : ∀ x ∈ faults n c kept ls out, PyData.strOk x = true := by
  have h1 : ∀ x ∈ [Str.ofString "row_size", Str.ofString "two_edges", Str.ofString "edge_in_combinational", Str.ofString "dash_in_combinational", Str.ofString "empty_edge"], PyData.strOk x = true := by decide +kernel
  intro x hx
  unfold faults at hx
  rcases List.mem_append.mp hx with hx | hx
  · unfold preL at hx
    refine h1 x ?_
    rcases List.mem_append.mp hx with hx | hx
    · split at hx
      · rw [List.mem_singleton.mp hx]; simp
      · exact nomatch hx
    · split at hx
      · split at hx
        · rw [List.mem_singleton.mp hx]; simp
        · exact nomatch hx
      · rcases List.mem_append.mp hx with hx | hx
        · split at hx
          · rw [List.mem_singleton.mp hx]; simp
          · exact nomatch hx
        · split at hx
          · rw [List.mem_singleton.mp hx]; simp
          · exact nomatch hx
  · rw [(List.mem_replicate.mp hx).2]; exact h1 _ (by simp)
open Classical in
theorem eq_kinds {prog : Program} {w : World} {A : Around} {E : Value → Shared → Prop} {s : Shared} {h₀ : Heap} {L a b : Addr} {led : List (Addr × Obj)} {its ats : Array Value} {xs : List Str} {ka kb : Nat} {Q : Value → Shared → Prop} (N : News h₀ L s.heap led)
    (ma : (a, listOf its ka) ∈ led) (mb : (b, listOf ats kb) ∈ led) (ha : StrsAre its.toList xs) (hb : StrsAre ats.toList xs) (hok : ∀ x ∈ xs, PyData.strOk x = true) (hu : A.units + 64 < cLine) (h : Q (.bool true) s) :
    wpAny (model prog w) A (compareOp .Eq (.ref a) (.ref b)) Q E s := by
  have ho : ∀ d ∈ xs.map Dat.str, kqdOk 8 d = true := by
    intro d hd
    obtain ⟨x, hx, rfl⟩ := List.mem_map.mp hd
    exact hok x hx
  refine kqd_eq (xs := its.toList) (ys := ats.toList) (n₁ := []) (n₂ := []) (ds := xs.map Dat.str) (es := xs.map Dat.str) N ma rfl (by show Data.seq its ka = _; rw [Array.toArray_toList]) (strs_dat ha) (fun _ hp => nomatch hp) mb rfl (by show Data.seq ats kb = _; rw [Array.toArray_toList]) (strs_dat hb) (fun _ hp => nomatch hp) ho ho hu ?_
  rw [decide_eq_true rfl]; exact h
theorem lenC {prog : Program} {w : World} {A : Around} {E : Value → Shared → Prop} {s : Shared} {h₀ : Heap} {L l : Addr} {news : List (Addr × Obj)} {ys : List Value} {ls : List Lt} {nn : Nat} {Q : Value → Shared → Prop} (N : News h₀ L s.heap news)
    (hl : (l, listOf ys.toArray nn) ∈ news) (hy : (ys.length : Int) = cntE ls) (hz : ys.length ≤ 16384) (h : Q (.int (cntE ls) (s.toks + 1)) { s with toks := s.toks + 1 + 1 }) : wpAny (model prog w) A (call (.builtin "len") [.ref l]) Q E s :=
  lenL N hl hz (by rw [hy]; exact h)
end

/-! where ways meet -/
section
def sizL (n c : Nat) : List Str := if (n : Int) ≠ (c : Int) then [Str.ofString "row_size"] else []
def resL (kept : Bool) (ls : List Lt) (out : Str) : List Str := if kept = true then (if 1 < cntE ls then [Str.ofString "two_edges"] else []) else (if 0 < cntE ls then [Str.ofString "edge_in_combinational"] else []) ++ (if (out == Str.ofString "-") = true then [Str.ofString "dash_in_combinational"] else [])
theorem preL_split {n c : Nat} {kept : Bool} {ls : List Lt} {out : Str} : preL n c kept ls out = sizL n c ++ resL kept ls out := rfl
theorem sizL_1 {n c : Nat} (h : (n : Int) ≠ (c : Int)) : sizL n c = [Str.ofString "row_size"] := if_pos h
theorem sizL_0 {n c : Nat} (h : (n : Int) = (c : Int)) : sizL n c = [] := if_neg (fun q => q h)
theorem resL_10 {kept : Bool} {ls : List Lt} {out : Str} (h2 : kept = true) (h3 : ¬ 1 < cntE ls) : resL kept ls out = [] := by unfold resL; subst h2; simp [h3]
theorem resL_11 {kept : Bool} {ls : List Lt} {out : Str} (h2 : kept = true) (h3 : 1 < cntE ls) : resL kept ls out = [Str.ofString "two_edges"] := by unfold resL; subst h2; simp [h3]
theorem resL_000 {kept : Bool} {ls : List Lt} {out : Str} (h2 : kept = false) (h3 : ¬ 0 < cntE ls) (h4 : (out == Str.ofString "-") = false) : resL kept ls out = [] := by unfold resL; subst h2; simp [h3, h4]
theorem resL_001 {kept : Bool} {ls : List Lt} {out : Str} (h2 : kept = false) (h3 : ¬ 0 < cntE ls) (h4 : (out == Str.ofString "-") = true) : resL kept ls out = [Str.ofString "dash_in_combinational"] := by unfold resL; subst h2; simp [h3, h4]
theorem resL_010 {kept : Bool} {ls : List Lt} {out : Str} (h2 : kept = false) (h3 : 0 < cntE ls) (h4 : (out == Str.ofString "-") = false) : resL kept ls out = [Str.ofString "edge_in_combinational"] := by unfold resL; subst h2; simp [h3, h4]
theorem resL_011 {kept : Bool} {ls : List Lt} {out : Str} (h2 : kept = false) (h3 : 0 < cntE ls) (h4 : (out == Str.ofString "-") = true) : resL kept ls out = [Str.ofString "edge_in_combinational", Str.ofString "dash_in_combinational"] := by unfold resL; subst h2; simp [h3, h4]
def twoL (kept : Bool) (ls : List Lt) : List Str := if kept = true then (if 1 < cntE ls then [Str.ofString "two_edges"] else []) else []
def edgL (kept : Bool) (ls : List Lt) : List Str := if kept = true then [] else (if 0 < cntE ls then [Str.ofString "edge_in_combinational"] else [])
def dasL (kept : Bool) (out : Str) : List Str := if kept = true then [] else (if (out == Str.ofString "-") = true then [Str.ofString "dash_in_combinational"] else [])
theorem twoL_1 {kept : Bool} {ls : List Lt} (h : kept = true) (h1 : 1 < cntE ls) : twoL kept ls = [Str.ofString "two_edges"] := by unfold twoL; rw [if_pos h, if_pos h1]
theorem twoL_0 {kept : Bool} {ls : List Lt} (h : kept = true) (h1 : ¬ 1 < cntE ls) : twoL kept ls = [] := by unfold twoL; rw [if_pos h, if_neg h1]
theorem twoL_n {kept : Bool} {ls : List Lt} (h : kept = false) : twoL kept ls = [] := by subst h; rfl
theorem edgL_n {kept : Bool} {ls : List Lt} (h : kept = true) : edgL kept ls = [] := by subst h; rfl
theorem edgL_1 {kept : Bool} {ls : List Lt} (h : kept = false) (h1 : 0 < cntE ls) : edgL kept ls = [Str.ofString "edge_in_combinational"] := by subst h; unfold edgL; simp [h1]
theorem edgL_0 {kept : Bool} {ls : List Lt} (h : kept = false) (h1 : ¬ 0 < cntE ls) : edgL kept ls = [] := by subst h; unfold edgL; simp [h1]
theorem dasL_n {kept : Bool} {out : Str} (h : kept = true) : dasL kept out = [] := by subst h; rfl
theorem dasL_1 {kept : Bool} {out : Str} (h : kept = false) (h1 : (out == Str.ofString "-") = true) : dasL kept out = [Str.ofString "dash_in_combinational"] := by subst h; unfold dasL; simp [h1]
theorem dasL_0 {kept : Bool} {out : Str} (h : kept = false) (h1 : (out == Str.ofString "-") = false) : dasL kept out = [] := by subst h; unfold dasL; simp [h1]
theorem pre_of4 {n c : Nat} {kept : Bool} {ls : List Lt} {out : Str} : ((sizL n c ++ twoL kept ls) ++ edgL kept ls) ++ dasL kept out = preL n c kept ls out := by
  rw [preL_split]; unfold resL twoL edgL dasL
  cases kept <;> simp
theorem len_of4 {n c : Nat} {kept : Bool} {ls : List Lt} {out : Str} {its : Array Value} {p q : List Str} (h : StrsAre its.toList p) (e : p ++ q = preL n c kept ls out) : its.size ≤ 3 := by
  have h1 := h.length
  rw [Array.length_toList] at h1
  have h2 : (preL n c kept ls out).length ≤ 3 := by
    unfold preL
    repeat' split
    all_goals simp
  rw [← e, List.length_append] at h2
  omega
theorem push0 {its : Array Value} {p r : List Str} (h : StrsAre its.toList p) (e : r = []) : StrsAre its.toList (p ++ r) := by rw [e, List.append_nil]; exact h
theorem push1 {its : Array Value} {p r : List Str} {x : Str} {t : Tok} (h : StrsAre its.toList p) (e : r = [x]) : StrsAre (its.push (.str x t)).toList (p ++ r) := by
  rw [e, Array.toList_push]; exact h.append' (.cons _ _ .nil)
theorem push2 {its : Array Value} {p r : List Str} {x y : Str} {t u : Tok} (h : StrsAre its.toList p) (e : r = [x, y]) : StrsAre ((its.push (.str x t)).push (.str y u)).toList (p ++ r) := by
  rw [e, Array.toList_push, Array.toList_push, List.append_assoc]; exact h.append' (.cons _ _ (.cons _ _ .nil))
/-- where ways meet: the kinds are so many texts, all else stands -/
def JK (h₀ : Heap) (L : Addr) (m : Str → Option Value) (K : Addr) (led : List (Addr × Obj)) (pre : List Str) (s : Shared) (f : Flow) (s' : Shared) : Prop :=
  f = .next ∧ ∃ its k h tk, s' = { s with heap := h, toks := tk } ∧ Fr h₀ L h m ∧ News h₀ L h ((K, listOf its k) :: led) ∧ StrsAre its.toList pre
theorem JK.mk {h₀ h : Heap} {L K : Addr} {m : Str → Option Value} {led : List (Addr × Obj)} {pre : List Str} {s : Shared} {its : Array Value} {k tk : Nat} (F : Fr h₀ L h m) (N : News h₀ L h ((K, listOf its k) :: led)) (hs : StrsAre its.toList pre) : JK h₀ L m K led pre s .next { s with heap := h, toks := tk } :=
  ⟨rfl, its, k, h, tk, rfl, F, N, hs⟩
theorem join_kinds {M : Model} {A : Around} {E : Value → Shared → Prop} {s : Shared} {h₀ : Heap} {L K : Addr} {m : Str → Option Value} {led led' : List (Addr × Obj)} {its0 : Array Value} {k0 : Nat} {t : Sem Flow} {Q : Flow → Shared → Prop} (pre : List Str) (F : Fr h₀ L s.heap m) (N : News h₀ L s.heap led') (mK : m (Str.ofString "kinds") = some (.ref K)) (_hK : (K, listOf its0 k0) ∈ led')
    (h : wpAny M A t (JK h₀ L m K led pre s) E s)
    (k : ∀ its k h tk, Fr h₀ L h m → News h₀ L h ((K, listOf its k) :: led) → StrsAre its.toList pre → Q .next { s with heap := h, toks := tk }) : wpAny M A t Q E s :=
  wpAny_mono h (fun v s' hj => by
    obtain ⟨e1, its, n, h', tk, e2, F', N', hs⟩ := hj
    subst e1; subst e2
    exact k its n h' tk F' N' hs) fun _ _ e => e
theorem siz_len {n c : Nat} {its : Array Value} (h : StrsAre its.toList (sizL n c)) : its.size ≤ 1 := by
  have := h.length
  rw [Array.length_toList] at this
  rw [this]; unfold sizL; split <;> simp
theorem pre_len {n c : Nat} {kept : Bool} {ls : List Lt} {out : Str} {its : Array Value} (h : StrsAre its.toList (preL n c kept ls out)) : its.size ≤ 3 := by
  have := h.length
  rw [Array.length_toList] at this
  rw [this]; unfold preL
  repeat' split
  all_goals simp
end

/-! a comprehension with a test -/
section
open PyProof.Rows.LCg PyProof.Rows.LCt
section
variable {prog : Program} {w : World} {A : Around} {s : Shared} {h₀ : Heap} {L : Addr} {m : Str → Option Value} {env : Env}
theorem compEnd_mono {s₁ : Shared} {I : Addr} {oI : Obj} {C : Addr} {oC : Obj} {D : Addr} {oD : Obj} {S : List (Addr × Obj) → Prop} {r r' : Value → List (Addr × Obj) → Prop} {y : Value} {s₂ : Shared} (h : CompEnd h₀ L m s₁ I oI C oC D oD S r y s₂) (hr : ∀ nx, r y nx → r' y nx) : CompEnd h₀ L m s₁ I oI C oC D oD S r' y s₂ := by
  obtain ⟨h', tk, nx, e, F, N, o, hS, hq⟩ := h
  exact ⟨h', tk, nx, e, F, N, o, hS, hr _ hq⟩
/-- a comprehension with a test by what holds of the list that it makes -/
theorem compRest_inv {ct elt : Expr} {x : Str} {scope : Scope} {cl : List (Str × Addr)} {S : List (Addr × Obj) → Prop} {P : Nat → Value → Prop} {Fin : List Value → List (Addr × Obj) → Prop} {news : List (Addr × Obj)} {n : Nat} (G : Nat → List Value → Prop)
    (fin : ∀ ys, G n ys → Fin ys news)
    (step : ∀ i ys v I oI C oC D m₂ h tk (E' : Value → Shared → Prop), i < n → G i ys → P i v → NsObj oC m₂ → m₂ x = some v → Fr h₀ L h m → News h₀ L h ((I, oI) :: (C, oC) :: (D, lst ys) :: news) → Off3 I C D news → ((@Ne Nat I C) ∧ (@Ne Nat I D) ∧ (@Ne Nat C D)) →
      wpAny (model prog w) A (isTrue ct (compEnvC scope cl C env) (eval ct (compEnvC scope cl C env))) (fun ok s' => if ok = true then
        wpAny (model prog w) A (eval elt (compEnvC scope cl C env)) (CompEnd h₀ L m { s with heap := h, toks := tk } I oI C oC D (lst ys) S (fun y nx => nx = news ∧ G (i + 1) (ys ++ [y]))) E' s'
        else CompEnd h₀ L m { s with heap := h, toks := tk } I oI C oC D (lst ys) S (fun _ nx => nx = news ∧ G (i + 1) ys) Value.none s') E' { s with heap := h, toks := tk }) :
    ∀ k i ys, i + k = n → G i ys → CompRestT prog w A h₀ L m env ct elt x scope cl s S P Fin k i ys news := by
  intro k
  induction k with
  | zero =>
    intro i ys hk hG
    have : i = n := by omega
    subst this
    exact CompRestT.zero (fin ys hG)
  | succ k ih =>
    intro i ys hk hG
    refine CompRestT.succ ?_
    intro v I oI C oC D m₂ h tk E' hP hC hx F N o ne
    refine wpAny_mono (step i ys v I oI C oC D m₂ h tk E' (by omega) hG hP hC hx F N o ne) (fun ok s' hq => ?_) fun _ _ e => e
    cases ok with
    | true =>
      simp only [if_true] at hq ⊢
      refine wpAny_mono hq (fun y s₂ hq => compEnd_mono hq ?_) fun _ _ e => e
      rintro nx ⟨rfl, hG'⟩
      exact ih (i + 1) _ (by omega) hG'
    | false =>
      simp only [Bool.false_eq_true, if_false] at hq ⊢
      refine compEnd_mono hq ?_
      rintro nx ⟨rfl, hG'⟩
      exact ih (i + 1) _ (by omega) hG'
end
theorem lts_snoc1 {news : List (Addr × Obj)} {ys : List Value} {ls : List Lt} {i : Nat} {l : Lt} {v : Value} (h : LtsIn news ys ((ls.take i).filter Lt.isEdge)) (hl : ls[i]? = some l) (hv : LtIn news v l) (e : l.isEdge = true) : LtsIn news (ys ++ [v]) ((ls.take (i + 1)).filter Lt.isEdge) := by
  rw [List.take_add_one, hl, List.filter_append]
  refine h.append ?_
  show LtsIn news [v] (List.filter Lt.isEdge [l])
  rw [List.filter_cons, if_pos e]
  exact .cons hv .nil
theorem lts_snoc0 {news : List (Addr × Obj)} {ys : List Value} {ls : List Lt} {i : Nat} {l : Lt} (h : LtsIn news ys ((ls.take i).filter Lt.isEdge)) (hl : ls[i]? = some l) (e : l.isEdge = false) : LtsIn news ys ((ls.take (i + 1)).filter Lt.isEdge) := by
  rw [List.take_add_one, hl, List.filter_append]
  show LtsIn news ys (_ ++ List.filter Lt.isEdge [l])
  rw [List.filter_cons, if_neg (by rw [e]; exact Bool.false_ne_true), List.filter_nil, List.append_nil]
  exact h
end

/-! is_edge -/
section
local macro_rules | `(tactic| k_mem) => `(tactic| first | with_reducible assumption | with_reducible exact List.mem_cons_self .. | (refine' List.mem_cons_of_mem _ ?_; k_mem))
local macro_rules | `(tactic| k_all) => `(tactic| first | with_reducible assumption | exact off_of_lt (by assumption))

theorem is_edge_c {w mean mg mb news v l} (hl : LtIn news v l) (hok : l.Ok) : Cl w mean mg mb 49 440 440 news [v] (fun v nx => v = .bool l.isEdge ∧ nx = news) := by
  refine Cl.of ?_
  intro gd cn cs a ccd cl outer A₀ base h₀ L m s Q E B F X N T hk hret
  cases hl with
  | sym x t =>
    simp only [Lt.Ok, List.mem_cons, List.not_mem_nil, or_false] at hok
    rcases hok with rfl | rfl | rfl | rfl | rfl | rfl | rfl | rfl | rfl | rfl
    all_goals (
      refine wpAny_call ?_
      k_dflt cell_enter
      k_steps
      exact hret _ _ _ _ (by with_reducible assumption) (cb_drop (by with_reducible assumption) (by intro p hp; simp only [List.mem_cons, hp, or_true])) ⟨by decide +kernel, rfl⟩)
  | edge hx hm =>
    subst hx
    refine wpAny_call ?_
    k_dflt cell_enter
    k_steps
    exact hret _ _ _ _ (by with_reducible assumption) (cb_drop (by with_reducible assumption) (by intro p hp; simp only [List.mem_cons, hp, or_true])) ⟨rfl, rfl⟩
end

/-! _law_fits -/
section
local macro_rules | `(tactic| k_mem) => `(tactic| first | with_reducible assumption | (refine' List.mem_cons_of_mem _ ?_; k_mem))
local macro_rules | `(tactic| k_all) => `(tactic| exact off_of_lt (by assumption))

theorem fits_c {w mean mg mb news} {l : Addr} {n : Nat} {t ta tb t1 t2} {x y a b : Str} (hm : (l, tupO [.str "edge" t, .str a ta, .str b tb] n) ∈ news) (hb : b ∈ levs) (ha : a ∈ levs) :
    Cl w mean mg mb 84 430 430 news [.ref l, .str x t1, .str y t2] (fun v nx => v = .bool (fitsV a b x y) ∧ nx = news) := by
  refine Cl.of ?_
  intro gd cn cs a' ccd cl outer A₀ base h₀ L m s Q E B F X N T hk hret
  refine wpAny_call ?_
  k_dflt cell_enter
  k_steps
  all_goals exact hret _ _ _ _ (by with_reducible assumption) (cb_drop (by with_reducible assumption) (by intro p hp; simp only [List.mem_cons, hp, or_true])) ⟨congrArg Value.bool (by first | exact fits1 (by assumption) | exact fits2 (by first | exact sortS_0 (by assumption) | exact sortS_1 (by assumption) | exact sortS_x (by assumption) | exact sortS_b (by assumption) | exact sortS_q (by assumption)) (by assumption) (by assumption) | exact fits3 (by first | exact sortS_0 (by assumption) | exact sortS_1 (by assumption) | exact sortS_x (by assumption) | exact sortS_b (by assumption) | exact sortS_q (by assumption)) (by first | exact sortS_0 (by assumption) | exact sortS_1 (by assumption) | exact sortS_x (by assumption) | exact sortS_b (by assumption) | exact sortS_q (by assumption)) (by assumption) (by assumption)), rfl⟩
end

/-! _law_is_empty -/
section
local macro_rules | `(tactic| k_mem) => `(tactic| first | with_reducible assumption | with_reducible exact List.mem_cons_self .. | (refine' List.mem_cons_of_mem _ ?_; k_mem))
local macro_rules | `(tactic| k_all) => `(tactic| first | with_reducible assumption | exact off_of_lt (by assumption))
local macro_rules | `(tactic| walk_at "call ref") => `(tactic| (k_here; (with_reducible show wpAny _ _ (call (Value.ref 84) _) _ _ _); k_dflt (refine' fits_c ?hm ?hb ?ha _ _ ?d ?u _ _ _ _ _ _ _ _ _ _ _ _ _ _ _ ?k1 ?k2 ?k3 ?k4 ?k5 ?kK ?_; (case k1 => k_asm); (case k2 => k_asm); (case k3 => k_asm); (case k4 => k_asm); (case k5 => k_asm); (case kK => exact rfl); (case d => exact Nat.le_of_ble_eq_true rfl); (case u => exact Nat.le_of_ble_eq_true rfl); (case hm => k_mem); (case hb => assumption); (case ha => assumption); skip); intro v9 h9 tk9 nx9 F9 N9 hP9; (have e9 := hP9.1); (have e8 := hP9.2); clear hP9; subst e9; subst e8; (try dsimp only); (try k_fold)))
local macro_rules | `(tactic| walk_at "exec For Name Constant cons nil") => `(tactic| walk_at "last exec For Name")
local macro_rules | `(tactic| walk_at "pyIter str") => `(tactic| walk_at "last pyIter str")

theorem is_empty_F {w mean mg mb} {l : Addr} {n : Nat} {t ta tb} {a b : Str} (hb : b ∈ levs) (ha : a ∈ levs) :
    ClF w mean mg mb 91 420 420 [(l, tupO [.str "edge" t, .str a ta, .str b tb] n)] [.ref l] (fun v nx => v = .bool (emptyV a b) ∧ nx = [(l, tupO [.str "edge" t, .str a ta, .str b tb] n)]) := by
  intro gd cn cs a' ccd cl outer A₀ base h₀ L m s Q E B F X N T hk hret
  refine wpAny_call ?_
  k_dflt (refine' code_defG ?k1 ?k2 ?k3 ?k4 ?k5 ?kA ?kF ?kK ?k6 ?k7 ?k8 ?k9 ?kB ?_ ?c2 ?c3 ?c4 ?c5; (case kA => exact rfl); (case kF => exact rfl); (case kK => assumption); (case k1 => k_asm); (case k2 => k_asm); (case k3 => k_asm); (case k4 => k_asm); (case k5 => k_asm); (case k6 => k_is); (case k7 => k_is); (case k8 => ktr_room); (case k9 => exact BindsTo.of_eq rfl); (case c5 => decide); (case kB => exact locs rfl); (case c2 => exact rfl); (case c3 => exact rfl); (case c4 => exact rfl); k_whole; intro g' L' h' FG' F' N' B' X' T' G'; (try dsimp only); (try k_lift B'); (try k_fold))

  k_steps
  all_goals first
    | exact hret _ _ _ _ (by with_reducible assumption) (cb_drop (by with_reducible assumption) (by intro p hp; simp only [List.mem_cons, hp, or_true])) (keepF (by with_reducible assumption) G') ⟨congrArg Value.bool (emptyV_ff (by with_reducible assumption)), rfl⟩
    | exact hret _ _ _ _ (by with_reducible assumption) (cb_drop (by with_reducible assumption) (by intro p hp; simp only [List.mem_cons, hp, or_true])) (keepF (by with_reducible assumption) G') ⟨congrArg Value.bool (emptyV_tt (by with_reducible assumption) (by with_reducible assumption) (by with_reducible assumption) (by with_reducible assumption) (by with_reducible assumption) (by with_reducible assumption) (by with_reducible assumption) (by with_reducible assumption) (by with_reducible assumption)), rfl⟩
theorem is_empty_c {w mean mg mb news v l} (hl : LtIn news v l) (hok : l.Ok) : Cl w mean mg mb 91 420 420 news [v] (fun v nx => v = .bool l.empty ∧ nx = news) := by
  cases hl with
  | sym x t =>
    refine Cl.of ?_
    intro gd cn cs a' ccd cl outer A₀ base h₀ L m s Q E B F X N T hk hret
    refine wpAny_call ?_
    k_dflt cell_enter
    k_steps
    exact hret _ _ _ _ (by with_reducible assumption) (cb_drop (by with_reducible assumption) (by intro p hp; simp only [List.mem_cons, hp, or_true])) ⟨rfl, rfl⟩
  | edge hx hm =>
    subst hx
    exact ClF.toCl (is_empty_F hok.2 hok.1) (by intro p hp; rw [List.mem_singleton.mp hp]; exact hm)
end

/-! level_codes -/
section
local macro_rules | `(tactic| k_mem) => `(tactic| first | with_reducible assumption | with_reducible exact List.mem_cons_self .. | (refine' List.mem_cons_of_mem _ ?_; k_mem))
local macro_rules | `(tactic| k_all) => `(tactic| first | with_reducible assumption | exact off_of_lt (by assumption))

theorem level_codes_c {w mean mg mb news} {t : Tok} {a : Str} (ha : a ∈ levs) : Cl w mean mg mb 42 440 440 news [.str a t] (fun v nx => ∃ q vs k, v = .ref q ∧ nx = (q, tupO vs k) :: news ∧ IntsAre vs (codes a) ∧ ∀ p ∈ news, p.1 < q) := by
  refine Cl.of ?_
  intro gd cn cs a' ccd cl outer A₀ base h₀ L m s Q E B F X N T hk hret
  refine wpAny_call ?_
  k_dflt cell_enter
  k_steps
  all_goals first
    | exact (codes_no (by with_reducible assumption) (by with_reducible assumption) (by with_reducible assumption) (by with_reducible assumption) (by with_reducible assumption) ha).elim
    | exact hret _ _ _ _ (by with_reducible assumption) (by with_reducible assumption) ⟨_, _, _, rfl, rfl, by first | (rw [codes_0 (a := a) (by with_reducible assumption)]; repeat constructor) | (rw [codes_1 (a := a) (by with_reducible assumption)]; repeat constructor) | (rw [codes_x (a := a) (by with_reducible assumption)]; repeat constructor) | (rw [codes_b (a := a) (by with_reducible assumption)]; repeat constructor) | (rw [codes_q (a := a) (by with_reducible assumption)]; repeat constructor), by with_reducible assumption⟩
end

/-! edge_pairs -/
section
local macro_rules | `(tactic| k_mem) => `(tactic| first | with_reducible assumption | with_reducible exact List.mem_cons_self .. | (refine' List.mem_cons_of_mem _ ?_; k_mem))
local macro_rules | `(tactic| k_all) => `(tactic| first | with_reducible assumption | exact off_of_lt (by assumption))
local macro_rules | `(tactic| walk_at "call ref") => `(tactic| (k_here; (with_reducible show wpAny _ _ (call (Value.ref 42) _) _ _ _); k_dflt (refine' level_codes_c ?ha _ _ ?d ?u _ _ _ _ _ _ _ _ _ _ _ _ _ _ _ ?k1 ?k2 ?k3 ?k4 ?k5 ?kK ?_; (case k1 => k_asm); (case k2 => k_asm); (case k3 => k_asm); (case k4 => k_asm); (case k5 => k_asm); (case kK => exact rfl); (case d => exact Nat.le_of_ble_eq_true rfl); (case u => exact Nat.le_of_ble_eq_true rfl); (case ha => assumption); skip); intro v9 h9 tk9 nx9 F9 N9 hP9; obtain ⟨q9, vs9, k9, e9, e8, i9, l9⟩ := hP9; subst e9; subst e8; (try dsimp only); (try k_fold)))
local macro_rules | `(tactic| walk_at "exec For Name Name cons nil") => `(tactic| (k_here; (rename Fr _ _ _ _ => lF'); (with_unfolding_all refine' For_invVF lF' ?k1 ?k2 ?_; (case k1 => exact rfl); (case k2 => exact rfl); k_whole)))
local macro_rules | `(tactic| walk_at "compareOp Eq ref") => `(tactic| (k_here; (with_reducible show wpAny _ _ (compareOp CmpOp.Eq (Value.ref _) (Value.str _ _)) _ _ _); k_dflt (refine' eq_tup_str ?k1 ?k2 ?k3 ?_; (case k1 => k_asm); (case k2 => k_mem); (case k3 => ktr_units); k_whole)))
local macro_rules | `(tactic| walk_at "call type:tuple") => `(tactic| (k_here; (with_reducible show wpAny _ _ (call (Value.type _) [Value.ref _]) _ _ _); k_dflt (refine' kde_tupleOf ?k1 ?k2 ?k3 ?k4 rfl ?_; (case k1 => k_asm); (case k2 => k_asm); (case k3 => exact News.isList (by k_asm) (by k_mem)); (case k4 => omega); k_whole); intro D' h' F' N' l1))

theorem edge_pairs_e {w mean mg mb news} {l : Addr} {n : Nat} {t ta tb} {a b : Str} (hm : (l, tupO [.str "edge" t, .str a ta, .str b tb] n) ∈ news) (hb : b ∈ levs) (ha : a ∈ levs) :
    Cl w mean mg mb 56 430 430 news [.ref l] (fun v nx => ∃ q vs k, v = .ref q ∧ nx = (q, tupO vs k) :: news ∧ ((vs.length : Int) == 0) = emptyV a b ∧ vs.length ≤ 16 ∧ ∀ p ∈ news, p.1 < q) := by
  refine Cl.of ?_
  intro gd cn cs a' ccd cl outer A₀ base h₀ L m s Q E B F X N T hk hret
  refine wpAny_call ?_
  k_dflt cell_enter
  repeat' ((fail_if_success (with_reducible show wpAny _ _ (pyIter (Value.ref _)) _ _ _)); (first | (k_unfold; (try dsimp only)) | (k_end; wrow_close) | walk1 | (dsimp only; walk1) | (leave1; try dsimp only)))
  rename Fr _ _ _ _ => F0
  rename News _ _ _ _ => N0
  refine pairs_outer (news := news) (B := codes b) rfl F0 N0 (by assumption) rfl rfl rfl (by k_mem) (by k_mem) (by intro p hp; simp only [List.mem_cons, hp, or_true]) (by assumption) codes_len ?_ ?_
  · intro i n1 t1 its k u h tk I oI hAi hi3 hG hG2 d1 d2 d3 d4 d5 d6 d7 F1 N1
    (try dsimp only)
    (try k_fold)
    repeat' ((fail_if_success (with_reducible show wpAny _ _ (pyIter (Value.ref _)) _ _ _)); (first | (k_unfold; (try dsimp only)) | (k_end; wrow_close) | walk1 | (dsimp only; walk1) | (leave1; try dsimp only)))
    rename Fr _ _ _ _ => F2
    rename News _ _ _ _ => N2
    refine pairs_inner (B := codes b) rfl F2 N2 rfl rfl rfl (by k_mem) (by assumption) codes_len ?_ ?_
    · intro j z tz its2 k2 u2 h2 tk2 I2 oI2 hBj hj3 hG3 hG4 e1 e2 e3 F3 N3
      have hsz : its2.size ≤ 9 := by omega
      (try dsimp only)
      (try k_fold)
      k_steps
      · exact EndS.mk (_, _) (by k_asm) (news_tail (by k_asm)) (by intro p hp; rw [List.mem_singleton.mp hp]; exact e1) (by intro p hp; simp only [List.mem_cons, List.not_mem_nil, or_false] at hp; rcases hp with rfl | rfl | rfl <;> rfl) (in1 hG3 hG4 hBj (by assumption))
      · exact EndS.mk (its2, k2) (by k_asm) (by k_asm) (by intro p hp; rw [List.mem_singleton.mp hp]; exact e1) (by intro p hp; simp only [List.mem_cons, List.not_mem_nil, or_false] at hp; rcases hp with rfl | rfl | rfl <;> rfl) (in2 hG3 hG4 hBj (by assumption))
    · intro its2 k2 u2 h2 tk2 hG3 hG4 F3 N3
      (try dsimp only)
      (try k_fold)
      k_steps
      exact EndS.mk (its2, k2) (by k_asm) (news_swap (by k_asm)) (by intro p hp; rw [List.mem_singleton.mp hp]; exact d1) (by intro p hp; simp only [List.mem_cons, List.not_mem_nil, or_false] at hp; rcases hp with rfl | rfl <;> rfl) (out1 hG hG2 hG3 hG4 hAi)
  · intro its k u h tk hG hG2 d1 d2 d3 F1 N1
    (try dsimp only)
    (try k_fold)
    k_steps
    exact hret _ _ _ _ (by with_reducible assumption) (news_head (r := news) (by with_reducible assumption) (by intro p hp; simp only [List.mem_cons, hp, or_true])) ⟨_, _, _, rfl, rfl, fin_empty ha hb (by rw [← hG]; exact Array.length_toList), by rw [Array.length_toList]; omega, lt_sub (by assumption) (by intro p hp; simp only [List.mem_cons, hp, or_true])⟩

theorem edge_pairs_s {w mean mg mb news} {x : Str} {t : Tok} (hx : x ∈ edgeSyms) :
    Cl w mean mg mb 56 430 430 news [.str x t] (fun v nx => ∃ q vs k, v = .ref q ∧ nx = (q, tupO vs k) :: news ∧ ((vs.length : Int) == 0) = false ∧ vs.length ≤ 16 ∧ ∀ p ∈ news, p.1 < q) := by
  refine Cl.of ?_
  intro gd cn cs a' ccd cl outer A₀ base h₀ L m s Q E B F X N T hk hret
  simp only [List.mem_cons, List.not_mem_nil, or_false] at hx
  rcases hx with rfl | rfl | rfl | rfl | rfl
  all_goals (
    refine wpAny_call ?_
    k_dflt cell_enter
    repeat' ((fail_if_success (with_reducible show wpAny _ _ (pyIter (Value.ref _)) _ _ _)); (first | (k_unfold; (try dsimp only)) | (k_end; wrow_close) | walk1 | (dsimp only; walk1) | (leave1; try dsimp only))))
  all_goals try exact hret _ _ _ _ (by with_reducible assumption) (news_head (r := news) (by with_reducible assumption) (by intro p hp; simp only [List.mem_cons, hp, or_true])) ⟨_, _, _, rfl, rfl, rfl, Nat.le_of_ble_eq_true rfl, (by first | assumption | exact allLt_lt (by assumption) | exact allLt_lt (And.right (by assumption)) | exact allLt_lt (And.right (And.right (by assumption))) | exact allLt_lt (And.right (And.right (And.right (by assumption)))) | exact allLt_lt (And.right (And.right (And.right (And.right (by assumption))))) | exact allLt_lt (And.right (And.right (And.right (And.right (And.right (by assumption)))))) | exact allLt_lt (And.right (And.right (And.right (And.right (And.right (And.right (by assumption))))))) | exact allLt_lt (And.right (And.right (And.right (And.right (And.right (And.right (And.right (by assumption)))))))) | exact lt_sub (by assumption) (by intro p hp; simp only [List.mem_cons, hp, or_true]))⟩
  rename Fr _ _ _ _ => F0
  rename News _ _ _ _ => N0
  refine pairs_outer (news := news) (B := [0, 1, 3]) rfl F0 N0 (by assumption) rfl rfl rfl (by k_mem) (by k_mem) (by intro p hp; simp only [List.mem_cons, hp, or_true]) (by repeat constructor) (by decide) ?_ ?_
  · intro i n1 t1 its k u h tk I oI hAi hi3 hG hG2 d1 d2 d3 d4 d5 d6 d7 F1 N1
    (try dsimp only)
    (try k_fold)
    repeat' ((fail_if_success (with_reducible show wpAny _ _ (pyIter (Value.ref _)) _ _ _)); (first | (k_unfold; (try dsimp only)) | (k_end; wrow_close) | walk1 | (dsimp only; walk1) | (leave1; try dsimp only)))
    rename Fr _ _ _ _ => F2
    rename News _ _ _ _ => N2
    refine pairs_inner (B := [0, 1, 3]) rfl F2 N2 rfl rfl rfl (by k_mem) (by repeat constructor) (by decide) ?_ ?_
    · intro j z tz its2 k2 u2 h2 tk2 I2 oI2 hBj hj3 hG3 hG4 e1 e2 e3 F3 N3
      have hsz : its2.size ≤ 9 := by omega
      (try dsimp only)
      (try k_fold)
      k_steps
      · exact EndS.mk (_, _) (by k_asm) (news_tail (by k_asm)) (by intro p hp; rw [List.mem_singleton.mp hp]; exact e1) (by intro p hp; simp only [List.mem_cons, List.not_mem_nil, or_false] at hp; rcases hp with rfl | rfl | rfl <;> rfl) (in1 hG3 hG4 hBj (by assumption))
      · exact EndS.mk (its2, k2) (by k_asm) (by k_asm) (by intro p hp; rw [List.mem_singleton.mp hp]; exact e1) (by intro p hp; simp only [List.mem_cons, List.not_mem_nil, or_false] at hp; rcases hp with rfl | rfl | rfl <;> rfl) (in2 hG3 hG4 hBj (by assumption))
    · intro its2 k2 u2 h2 tk2 hG3 hG4 F3 N3
      (try dsimp only)
      (try k_fold)
      k_steps
      exact EndS.mk (its2, k2) (by k_asm) (news_swap (by k_asm)) (by intro p hp; rw [List.mem_singleton.mp hp]; exact d1) (by intro p hp; simp only [List.mem_cons, List.not_mem_nil, or_false] at hp; rcases hp with rfl | rfl <;> rfl) (out1 hG hG2 hG3 hG4 hAi)
  · intro its k u h tk hG hG2 d1 d2 d3 F1 N1
    (try dsimp only)
    (try k_fold)
    k_steps
    exact hret _ _ _ _ (by with_reducible assumption) (news_head (r := news) (by with_reducible assumption) (by intro p hp; simp only [List.mem_cons, hp, or_true])) ⟨_, _, _, rfl, rfl, by rw [← Array.length_toList] at hG; rw [hG]; rfl, by rw [Array.length_toList]; omega, lt_sub (by assumption) (by intro p hp; simp only [List.mem_cons, hp, or_true])⟩

theorem edge_pairs_c {w mean mg mb news v l} (hl : LtIn news v l) (hok : l.Ok) (he : l.isEdge = true) :
    Cl w mean mg mb 56 430 430 news [v] (fun v nx => ∃ q vs k, v = .ref q ∧ nx = (q, tupO vs k) :: news ∧ ((vs.length : Int) == 0) = l.empty ∧ vs.length ≤ 16 ∧ ∀ p ∈ news, p.1 < q) := by
  cases hl with
  | sym x t => exact edge_pairs_s (by obtain ⟨y, hy, e⟩ := List.any_eq_true.mp he; rw [← eq_of_beq e]; exact hy)
  | edge hx hm => subst hx; exact edge_pairs_e hm hok.2 hok.1
end

/-! edge_count -/
section
local macro_rules | `(tactic| k_mem) => `(tactic| first | with_reducible assumption | with_reducible exact List.mem_cons_self .. | (refine' List.mem_cons_of_mem _ ?_; k_mem))
local macro_rules | `(tactic| k_all) => `(tactic| first | with_reducible assumption | exact off_of_lt (by assumption))
local macro_rules | `(tactic| walk_at "call ref") => `(tactic| (k_here; (with_reducible show wpAny _ _ (call (Value.ref 49) _) _ _ _); k_dflt (refine' is_edge_c ?hl ?hok _ _ ?d ?u _ _ _ _ _ _ _ _ _ _ _ _ _ _ _ ?k1 ?k2 ?k3 ?k4 ?k5 ?kK ?_; (case k1 => k_asm); (case k2 => k_asm); (case k3 => k_asm); (case k4 => k_asm); (case k5 => k_asm); (case kK => exact rfl); (case d => exact Nat.le_of_ble_eq_true rfl); (case u => exact Nat.le_of_ble_eq_true rfl); (case hl => exact LtIn.mono (by assumption) (by intro p hp; simp only [List.mem_cons, hp, or_true])); (case hok => assumption); skip); intro v9 h9 tk9 nx9 F9 N9 hP9; (have e9 := hP9.1); (have e8 := hP9.2); clear hP9; subst e9; subst e8; (try dsimp only); (try k_fold)))
local macro_rules | `(tactic| walk_at "exec For Name Subscript cons nil") => `(tactic| (k_here; (rename Fr _ _ _ _ => lF'); (with_unfolding_all refine' For_invVF lF' ?k1 ?k2 ?_; (case k1 => exact rfl); (case k2 => exact rfl); k_whole)))

theorem edge_count_c {w mean mg mb news} {R T : Addr} {nR nT : Nat} {vs : List Value} {ls : List Lt} {kv ov : Value} (hR : (R, tupO [.ref T, kv, ov] nR) ∈ news) (hT : (T, tupO vs nT) ∈ news) (hv : LtsIn news vs ls) (hok : LsOk ls) :
    Cl w mean mg mb 63 430 430 news [.ref R] (fun v nx => (∃ t, v = .int (cntE ls) t) ∧ nx = news) := by
  refine Cl.of ?_
  intro gd cn cs a ccd cl outer A₀ base h₀ L m s Q E B F X N T' hk hret
  refine wpAny_call ?_
  k_dflt cell_enter
  repeat' ((fail_if_success (with_reducible show wpAny _ _ (pyIter (Value.ref _)) _ _ _)); (first | (k_unfold; (try dsimp only)) | (k_end; wrow_close) | walk1 | (dsimp only; walk1) | (leave1; try dsimp only)))
  rename Fr _ _ _ _ => F0
  rename News _ _ _ _ => N0
  refine loopT (vs := vs) (nn := nT) (fun _ : Int × Tok => []) (fun c => [(Str.ofString "count", .int c.1 c.2)]) (fun i c => c.1 = cntE (ls.take i)) news (0, _) rfl F0 N0 hT (fun p hp => hp) (by intro p hp; rw [List.mem_singleton.mp hp]; exact rfl) rfl ?_ ?_
  · rintro i v ⟨n, t⟩ u h tk I oI hvi hI hG F1 N1
    obtain ⟨l, hl, hin⟩ := hv.get hvi
    have hlok := hok l (List.mem_of_getElem? hl)
    dsimp only at hG
    (try dsimp only)
    simp only [List.nil_append] at N1
    (try k_fold)
    k_steps
    · exact EndS.mk (_, _) (by k_asm) (by k_asm) (by intro p hp; exact nomatch hp) (by intro p hp; rw [List.mem_singleton.mp hp]; exact rfl) (by rw [cntE_snoc1 hl (by assumption), ← hG])
    · exact EndS.mk (n, t) (by k_asm) (by k_asm) (by intro p hp; exact nomatch hp) (by intro p hp; rw [List.mem_singleton.mp hp]; exact rfl) (by rw [cntE_snoc0 hl (by assumption), ← hG])
  · rintro ⟨n, t⟩ u h tk hG F1 N1
    dsimp only at hG
    (try dsimp only)
    simp only [List.nil_append] at N1
    (try k_fold)
    k_steps
    exact hret _ _ _ _ (by with_reducible assumption) (by with_reducible assumption) ⟨⟨t, by rw [hv.length, List.take_length] at hG; rw [← hG]⟩, rfl⟩
end

/-! row_faults -/
section
local macro_rules | `(tactic| k_mem) => `(tactic| first | with_reducible assumption | with_reducible exact List.mem_cons_self .. | (refine' List.mem_cons_of_mem _ ?_; k_mem))
local macro_rules | `(tactic| k_all) => `(tactic| first | with_reducible assumption | exact off_of_lt (by assumption))
local macro_rules | `(tactic| walk_at "call builtin:len") => `(tactic| (k_here; (with_reducible show wpAny _ _ (call (Value.builtin "len") [Value.ref _]) _ _ _); k_dflt (refine' lenT ?k1 ?k2 ?k3 ?_; (case k1 => k_asm); (case k2 => with_reducible k_mem); (case k3 => first | omega | (simp only [List.length_cons, List.length_nil]; omega)); k_whole)))
local macro_rules | `(tactic| walk_at "call ref") => `(tactic| (k_here; (with_reducible show wpAny _ _ (call (Value.ref 49) _) _ _ _); k_dflt (refine' is_edge_c ?hl ?hok _ _ ?d ?u _ _ _ _ _ _ _ _ _ _ _ _ _ _ _ ?k1 ?k2 ?k3 ?k4 ?k5 ?kK ?_; (case k1 => k_asm); (case k2 => k_asm); (case k3 => k_asm); (case k4 => k_asm); (case k5 => k_asm); (case kK => exact rfl); (case d => exact Nat.le_of_ble_eq_true rfl); (case u => exact Nat.le_of_ble_eq_true rfl); (case hl => exact LtIn.mono (by assumption) (by intro p hp; simp only [List.mem_cons, hp, or_true])); (case hok => assumption); skip); intro v9 h9 tk9 nx9 F9 N9 hP9; (have e9 := hP9.1); (have e8 := hP9.2); clear hP9; subst e9; subst e8; (try dsimp only); (try k_fold)))
local macro_rules | `(tactic| walk_at "call ref") => `(tactic| (k_here; (with_reducible show wpAny _ _ (call (Value.ref 63) _) _ _ _); k_dflt (refine' edge_count_c ?hR ?hT ?hv ?hok _ _ ?d ?u _ _ _ _ _ _ _ _ _ _ _ _ _ _ _ ?k1 ?k2 ?k3 ?k4 ?k5 ?kK ?_; (case k1 => k_asm); (case k2 => k_asm); (case k3 => k_asm); (case k4 => k_asm); (case k5 => k_asm); (case kK => exact rfl); (case d => exact Nat.le_of_ble_eq_true rfl); (case u => exact Nat.le_of_ble_eq_true rfl); (case hR => k_mem); (case hT => k_mem); (case hv => exact LtsIn.mono (by assumption) (by intro p hp; simp only [List.mem_cons, hp, or_true])); (case hok => assumption); skip); intro v9 h9 tk9 nx9 F9 N9 hP9; (have e9 := hP9.1); (have e8 := hP9.2); clear hP9; obtain ⟨t9, e7⟩ := e9; subst e7; subst e8; (try dsimp only); (try k_fold)))
local macro_rules | `(tactic| walk_at "call ref") => `(tactic| (k_here; (with_reducible show wpAny _ _ (call (Value.ref 56) _) _ _ _); k_dflt (refine' edge_pairs_c ?hl ?hok ?he _ _ ?d ?u _ _ _ _ _ _ _ _ _ _ _ _ _ _ _ ?k1 ?k2 ?k3 ?k4 ?k5 ?kK ?_; (case k1 => k_asm); (case k2 => k_asm); (case k3 => k_asm); (case k4 => k_asm); (case k5 => k_asm); (case kK => exact rfl); (case d => exact Nat.le_of_ble_eq_true rfl); (case u => exact Nat.le_of_ble_eq_true rfl); (case hl => exact LtIn.mono (by assumption) (by intro p hp; simp only [List.mem_cons, hp, or_true])); (case hok => assumption); (case he => assumption); skip); intro v9 h9 tk9 nx9 F9 N9 hP9; obtain ⟨q9, vs9, k9, e9, e8, i9, z9, l9⟩ := hP9; subst e9; subst e8; (try k_lt l9); (try dsimp only); (try k_fold)))
local macro_rules | `(tactic| walk_at "exec For Name Subscript cons nil") => `(tactic| (k_here; (rename Fr _ _ _ _ => lF'); (with_unfolding_all refine' For_invVF lF' ?k1 ?k2 ?_; (case k1 => exact rfl); (case k2 => exact rfl); k_whole)))

theorem row_faults_c {w mean mg mb news} {x dx Di R T : Addr} {nR nT nD : Nat} {vs ivs : List Value} {ls : List Lt} {kv v1 v2 v3 v6 v7 : Value} {out : Str} {kept : Bool} {k1 k2 k3 k4 k5 k6 k7 t2 : Tok} {g1 g2 g3 g4 g5 g6 g7 : Int}
    (hx : (x, instObj 31 dx) ∈ news) (hd : (dx, dictOf [⟨g1, .str (Str.ofString "name") k1, v1⟩, ⟨g2, .str (Str.ofString "at") k2, v2⟩, ⟨g3, .str (Str.ofString "output") k3, v3⟩, ⟨g4, .str (Str.ofString "inputs") k4, .ref Di⟩, ⟨g5, .str (Str.ofString "sequential") k5, .bool kept⟩, ⟨g6, .str (Str.ofString "init") k6, v6⟩, ⟨g7, .str (Str.ofString "rows") k7, v7⟩] 7) ∈ news) (hi : (Di, tupO ivs nD) ∈ news)
    (hR : (R, tupO [.ref T, kv, .str out t2] nR) ∈ news) (hT : (T, tupO vs nT) ∈ news) (hz : vs.length ≤ 8) (hzi : ivs.length ≤ 8) (hv : LtsIn news vs ls) (hok : LsOk ls) :
    Cl w mean mg mb 70 410 410 news [.ref x, .ref R] (fun v nx => ∃ q its k, v = .ref q ∧ nx = (q, listOf its k) :: news ∧ StrsAre its.toList (faults vs.length ivs.length kept ls out) ∧ its.size ≤ 11 ∧ ∀ p ∈ news, @Ne Nat p.1 q) := by
  refine Cl.of ?_
  intro gd cn cs a ccd cl outer A₀ base h₀ L m s Q E B F X N T' hk hret
  refine wpAny_call ?_
  k_dflt cell_enter
  repeat' ((fail_if_success (with_reducible show wpAny _ _ (exec (Stmt.If _ _ _ _) _) _ _ _)); (first | (k_unfold; (try dsimp only)) | (k_end; wrow_close) | walk1 | (dsimp only; walk1) | (leave1; try dsimp only)))
  rename Fr _ _ _ _ => Fa
  rename News _ _ _ _ => Na
  refine join_kinds (led := news) (sizL vs.length ivs.length) Fa Na rfl (.head _) ?_ ?_
  · (try k_fold)
    k_steps
    all_goals exact JK.mk (by k_asm) (by k_asm) (by first | (rw [sizL_1 (by with_reducible assumption)]; repeat constructor) | (rw [sizL_0 (by with_reducible assumption)]; repeat constructor))
  intro its1 k1 h1 tk1 Fb Nb hs1
  have hz1 := siz_len hs1
  (try dsimp only)
  (try k_fold)
  repeat' ((fail_if_success (with_reducible show wpAny _ _ (exec (Stmt.If _ _ _ _) _) _ _ _)); (first | (k_unfold; (try dsimp only)) | (k_end; wrow_close) | walk1 | (dsimp only; walk1) | (leave1; try dsimp only)))
  rename Fr _ _ _ _ => Fc
  rename News _ _ _ _ => Nc
  refine join_kinds (led := news) (preL vs.length ivs.length kept ls out) Fc Nc rfl (.head _) ?_ ?_
  · (try k_fold)
    k_steps
    all_goals exact JK.mk (by k_asm) (by k_asm) (by rw [preL_split]; first | exact push1 hs1 (resL_11 (by with_reducible assumption) (by with_reducible assumption)) | exact push0 hs1 (resL_10 (by with_reducible assumption) (by with_reducible assumption)) | exact push2 hs1 (resL_011 (by with_reducible assumption) (by with_reducible assumption) (by with_reducible assumption)) | exact push1 hs1 (resL_010 (by with_reducible assumption) (by with_reducible assumption) (by with_reducible assumption)) | exact push1 hs1 (resL_001 (by with_reducible assumption) (by with_reducible assumption) (by with_reducible assumption)) | exact push0 hs1 (resL_000 (by with_reducible assumption) (by with_reducible assumption) (by with_reducible assumption)))
  intro its2 k2 h2 tk2 Fd Nd hs2
  have hz2 := pre_len hs2
  (try dsimp only)
  (try k_fold)
  repeat' ((fail_if_success (with_reducible show wpAny _ _ (pyIter (Value.ref _)) _ _ _)); (first | (k_unfold; (try dsimp only)) | (k_end; wrow_close) | walk1 | (dsimp only; walk1) | (leave1; try dsimp only)))
  rename Fr _ _ _ _ => F0
  rename News _ _ _ _ => N0
  refine kinds_loopT (x := Str.ofString "symbol") (base := news) (vs := vs) (nn := nT) Lt.bad (preL vs.length ivs.length kept ls out) rfl F0 N0 (off_of_lt (by assumption)) rfl (.head _) hT (fun p hp => .tail _ hp) hv hz hs2 hz2 ?_ ?_
  · intro i v l its k u h tk I oI hl hml hin hsz hG d1 d2 d3 F1 N1
    have hlok := hok l hml
    (try dsimp only)
    (try k_fold)
    k_steps
    · exact EndS.mk (_, _) (by k_asm) (news_tail (by k_asm)) (by intro p hp; rw [List.mem_singleton.mp hp]; exact d1) (by intro p hp; rw [List.mem_singleton.mp hp]; exact rfl) (gk_push hG hl (bad_t (by assumption) (emp_t (by assumption) (by assumption))))
    · exact EndS.mk (its, k) (by k_asm) (news_tail (by k_asm)) (by intro p hp; rw [List.mem_singleton.mp hp]; exact d1) (by intro p hp; rw [List.mem_singleton.mp hp]; exact rfl) (gk_same hG hl (bad_f (emp_f (by assumption) (by assumption))))
    · exact EndS.mk (its, k) (by k_asm) (by k_asm) (by intro p hp; rw [List.mem_singleton.mp hp]; exact d1) (by intro p hp; rw [List.mem_singleton.mp hp]; exact rfl) (gk_same hG hl (bad_n (by assumption)))
  · intro its k u h tk hG hsz d3 F1 N1
    (try dsimp only)
    (try k_fold)
    k_steps
    exact hret _ _ _ _ (by with_reducible assumption) (by with_reducible assumption) ⟨_, _, _, rfl, rfl, hG, hsz, d3⟩
end

/-! _law_due -/
section
local macro_rules | `(tactic| k_mem) => `(tactic| first | with_reducible assumption | with_reducible exact List.mem_cons_self .. | (refine' List.mem_cons_of_mem _ ?_; k_mem))
local macro_rules | `(tactic| k_all) => `(tactic| first | with_reducible assumption | exact off_of_lt (by assumption))
local macro_rules | `(tactic| walk_at "call builtin:len") => `(tactic| (k_here; (with_reducible show wpAny _ _ (call (Value.builtin "len") [Value.ref _]) _ _ _); k_dflt (first | (refine' lenC ?k1 ?k2 ?k4 ?k3 ?_; (case k1 => k_asm); (case k2 => k_mem); (case k4 => assumption); (case k3 => omega); k_whole) | (refine' lenL ?k1 ?k2 ?k3 ?_; (case k1 => k_asm); (case k2 => k_mem); (case k3 => omega); k_whole))))
local macro_rules | `(tactic| walk_at "compareOp NotEq ref ref") => `(tactic| (k_here; (with_reducible show wpAny _ _ (compareOp CmpOp.NotEq (Value.ref _) (Value.ref _)) _ _ _); k_dflt (refine' ne_nil ?k1 ?k2 ?k3 ?k4 ?k5 ?k6 ?k7 ?_; (case k1 => k_asm); (case k2 => k_mem); (case k3 => k_mem); (case k4 => assumption); (case k5 => (intro p hp; simp only [List.mem_cons, hp, or_true])); (case k6 => assumption); (case k7 => exact Nat.le_of_ble_eq_true rfl); k_whole)))
local macro_rules | `(tactic| walk_at "CompEnd") => `(tactic| (k_dflt (refine LCg.CompEnd.intro (by k_asm) (by k_asm) _ (by first | exact fun p hp => hp | exact fun p hp => .tail _ hp) (by k_asm) (by exact .inr ⟨_, (by k_mem), rfl, _, rfl⟩) ?_)))
local macro_rules | `(tactic| walk_at "exec Assign cons ListComp") => `(tactic| (k_here; lct_look; lcg_calm; k_dflt (refine LCt.Assign_ListComp_T (F₀ := by k_asm) (by rfl) (by with_unfolding_all rfl) (by with_unfolding_all rfl) (by decide) (by rfl) (by decide) (by rfl) (by rfl) (by rfl) ?_)))
local macro_rules | `(tactic| walk_at "call ref") => `(tactic| (k_here; (with_reducible show wpAny _ _ (call (Value.ref 91) _) _ _ _); k_dflt (refine' is_empty_c ?hl ?hok _ _ ?d ?u _ _ _ _ _ _ _ _ _ _ _ _ _ _ _ ?k1 ?k2 ?k3 ?k4 ?k5 ?kK ?_; (case k1 => k_asm); (case k2 => k_asm); (case k3 => k_asm); (case k4 => k_asm); (case k5 => k_asm); (case kK => exact rfl); (case d => exact Nat.le_of_ble_eq_true rfl); (case u => exact Nat.le_of_ble_eq_true rfl); (case hl => exact LtIn.mono (by assumption) (by intro p hp; simp only [List.mem_cons, hp, or_true])); (case hok => assumption); skip); intro v9 h9 tk9 nx9 F9 N9 hP9; (have e9 := hP9.1); (have e8 := hP9.2); clear hP9; subst e9; subst e8; (try dsimp only); (try k_fold)))
local macro_rules | `(tactic| walk_at "exec For Name Name cons nil") => `(tactic| (k_here; (rename Fr _ _ _ _ => lF'); (with_unfolding_all refine' For_invVF lF' ?k1 ?k2 ?_; (case k1 => exact rfl); (case k2 => exact rfl); k_whole)))

theorem due_c {w mean mg mb news} {T : Addr} {nT c : Nat} {vs : List Value} {ls : List Lt} {out : Str} {kept : Bool} {t1 t2 : Tok} {ci : Int} (hc : ci = (c : Int))
    (hT : (T, listOf vs.toArray nT) ∈ news) (hz : vs.length ≤ 8) (hv : LtsIn news vs ls) (hok : LsOk ls) :
    Cl w mean mg mb 96 410 410 news [.int ci t1, .bool kept, .ref T, .str out t2] (fun v nx => ∃ q its k, v = .ref q ∧ nx = (q, listOf its k) :: news ∧ StrsAre its.toList (faults vs.length c kept ls out) ∧ its.size ≤ 11 ∧ ∀ p ∈ news, @Ne Nat p.1 q) := by
  subst hc
  refine Cl.of ?_
  intro gd cn cs a ccd cl outer A₀ base h₀ L m s Q E B F X N T' hk hret
  refine wpAny_call ?_
  k_dflt cell_enter
  repeat' ((fail_if_success (with_reducible show wpAny _ _ (pyIter (Value.ref _)) _ _ _)); (first | (k_unfold; (try dsimp only)) | (k_end; wrow_close) | walk1 | (dsimp only; walk1) | (leave1; try dsimp only)))
  k_dflt (refine' LCt.CompSrcT.ledger (k := nT) (its := vs.toArray) ?a ?b ?c ?d ?e ?_)
  case a => exact rfl
  case b => k_asm
  case c => k_asm
  case d => exact .tail _ hT
  case e => (rw [List.size_toArray, PySem.sizeLine_eq]; omega)
  intro g
  refine compRest_inv (n := vs.toArray.size) (fun i ys => LtsIn news ys ((ls.take i).filter Lt.isEdge)) ?_ ?_ _ 0 [] (Nat.zero_add _) .nil
  · intro ys hys
    rw [List.size_toArray, hv.length, List.take_length] at hys
    have hyl : (ys.length : Int) = cntE ls := by rw [hys.length, cntE_filter]
    have hyz : ys.length ≤ 8 := by
      have := List.length_filter_le Lt.isEdge ls
      rw [hys.length]; rw [hv.length] at hz; omega
    intro D h tk F1 N1 o1
    simp only [LCg.Off1, and_true] at o1
    (try dsimp only)
    (try k_fold)
    repeat' ((fail_if_success (with_reducible show wpAny _ _ (exec (Stmt.If _ _ _ _) _) _ _ _)); (first | (k_unfold; (try dsimp only)) | (k_end; wrow_close) | walk1 | (dsimp only; walk1) | (leave1; try dsimp only)))
    rename Fr _ _ _ _ => Fa
    rename News _ _ _ _ => Na
    have Nc := news_swap Na
    clear Na
    refine join_kinds (led := (D, LCg.lst ys) :: news) (sizL vs.length c) Fa Nc rfl (by k_mem) ?_ ?_
    · (try k_fold)
      k_steps
      all_goals exact JK.mk (by k_asm) (by first | k_asm | exact news_tail (by k_asm)) (by first | (rw [sizL_1 (by with_reducible assumption)]; repeat constructor) | (rw [sizL_0 (by with_reducible assumption)]; repeat constructor))
    clear Fa Nc
    intro its1 k1 h1 tk1 Fb1 Nb1 hs1
    have hz1 := siz_len hs1
    (try dsimp only)
    (try k_fold)
    repeat' ((fail_if_success (with_reducible show wpAny _ _ (exec (Stmt.If _ _ _ _) _) _ _ _)); (first | (k_unfold; (try dsimp only)) | (k_end; wrow_close) | walk1 | (dsimp only; walk1) | (leave1; try dsimp only)))
    rename Fr _ _ _ _ => Fa
    rename News _ _ _ _ => Na
    refine join_kinds (led := (D, LCg.lst ys) :: news) (sizL vs.length c ++ twoL kept ls) Fa Na rfl (by k_mem) ?_ ?_
    · (try k_fold)
      k_steps
      all_goals exact JK.mk (by k_asm) (by first | k_asm | exact news_tail (by k_asm)) (by first | exact push1 hs1 (twoL_1 (by with_reducible assumption) (by with_reducible assumption)) | exact push0 hs1 (twoL_0 (by with_reducible assumption) (by with_reducible assumption)) | exact push0 hs1 (twoL_n (by with_reducible assumption)))
    clear Fa Na
    intro its2 k2 h2 tk2 Fb2 Nb2 hs2
    have hz2 := len_of4 (kept := kept) (ls := ls) (out := out) (q := edgL kept ls ++ dasL kept out) hs2 (by rw [← List.append_assoc]; exact pre_of4)
    (try dsimp only)
    (try k_fold)
    repeat' ((fail_if_success (with_reducible show wpAny _ _ (exec (Stmt.If _ _ _ _) _) _ _ _)); (first | (k_unfold; (try dsimp only)) | (k_end; wrow_close) | walk1 | (dsimp only; walk1) | (leave1; try dsimp only)))
    rename Fr _ _ _ _ => Fa
    rename News _ _ _ _ => Na
    refine join_kinds (led := (D, LCg.lst ys) :: news) ((sizL vs.length c ++ twoL kept ls) ++ edgL kept ls) Fa Na rfl (by k_mem) ?_ ?_
    · (try k_fold)
      k_steps
      all_goals exact JK.mk (by k_asm) (by first | k_asm | exact news_tail (by k_asm)) (by first | exact push1 hs2 (edgL_1 (by with_reducible assumption) (by with_reducible assumption)) | exact push0 hs2 (edgL_0 (by with_reducible assumption) (by with_reducible assumption)) | exact push0 hs2 (edgL_n (by with_reducible assumption)))
    clear Fa Na
    intro its3 k3 h3 tk3 Fb3 Nb3 hs3
    have hz3 := len_of4 (kept := kept) (ls := ls) (out := out) hs3 pre_of4
    (try dsimp only)
    (try k_fold)
    repeat' ((fail_if_success (with_reducible show wpAny _ _ (exec (Stmt.If _ _ _ _) _) _ _ _)); (first | (k_unfold; (try dsimp only)) | (k_end; wrow_close) | walk1 | (dsimp only; walk1) | (leave1; try dsimp only)))
    rename Fr _ _ _ _ => Fa
    rename News _ _ _ _ => Na
    refine join_kinds (led := (D, LCg.lst ys) :: news) (((sizL vs.length c ++ twoL kept ls) ++ edgL kept ls) ++ dasL kept out) Fa Na rfl (by k_mem) ?_ ?_
    · (try k_fold)
      k_steps
      all_goals exact JK.mk (by k_asm) (by first | k_asm | exact news_tail (by k_asm)) (by first | exact push1 hs3 (dasL_1 (by with_reducible assumption) (by with_reducible assumption)) | exact push0 hs3 (dasL_0 (by with_reducible assumption) (by with_reducible assumption)) | exact push0 hs3 (dasL_n (by with_reducible assumption)))
    clear Fa Na
    intro its4 k4 h4 tk4 Fb4 Nb4 hs4
    have hz4 := pre_len (pre_of4 ▸ hs4)
    rw [pre_of4] at hs4
    (try dsimp only)
    (try k_fold)
    repeat' ((fail_if_success (with_reducible show wpAny _ _ (pyIter (Value.ref _)) _ _ _)); (first | (k_unfold; (try dsimp only)) | (k_end; wrow_close) | walk1 | (dsimp only; walk1) | (leave1; try dsimp only)))
    rename Fr _ _ _ _ => F0
    rename News _ _ _ _ => N0
    refine kinds_loopL (x := Str.ofString "letter") (base := (D, LCg.lst ys) :: news) (vs := ys) (nn := ys.length) Lt.empty (preL vs.length c kept ls out) rfl F0 N0 (List.forall_mem_cons.mpr ⟨Ne.symm o1.1, off_of_lt (by assumption)⟩) rfl (by k_mem) (.head _) (fun p hp => .tail _ hp) (hys.mono fun p hp => .tail _ hp) hyz hs4 hz4 ?_ ?_
    · intro i v l its k u h tk I oI hl hml hin hsz hG d1 d2 d3 F1 N1
      have hlok := hok l (List.mem_filter.mp hml).1
      (try dsimp only)
      (try k_fold)
      k_steps
      · exact EndS.mk (_, _) (by k_asm) (by k_asm) (by intro p hp; rw [List.mem_singleton.mp hp]; exact d1) (by intro p hp; rw [List.mem_singleton.mp hp]; exact rfl) (gk_push hG hl (by assumption))
      · exact EndS.mk (its, k) (by k_asm) (by k_asm) (by intro p hp; rw [List.mem_singleton.mp hp]; exact d1) (by intro p hp; rw [List.mem_singleton.mp hp]; exact rfl) (gk_same hG hl (by assumption))
    · intro its k u h tk hG hsz d3 F1 N1
      rw [cnt_filter] at hG
      (try dsimp only)
      (try k_fold)
      k_steps
      exact hret _ _ _ _ (by with_reducible assumption) (news_head (r := news) (by with_reducible assumption) (fun p hp => .tail _ hp)) ⟨_, _, _, rfl, rfl, hG, hsz, fun p hp => d3 p (.tail _ hp)⟩
  · intro i ys v I oI C oC D m₂ h tk E' hi hG hP hC hx F1 N1 o ne
    obtain ⟨l, hl, hin⟩ := hv.get (by simpa using hP)
    cases hin with
    | sym x t =>
      k_steps
      · exact lts_snoc1 hG hl (.sym x t) (by assumption)
      · exact lts_snoc0 hG hl (by assumption)
    | edge hxe hm =>
      k_steps
      exact lts_snoc1 hG hl (.edge hxe hm) rfl
end

/-! _law_judged -/
section
local macro_rules | `(tactic| k_mem) => `(tactic| first | with_reducible assumption | with_reducible exact List.mem_cons_self .. | (refine' List.mem_cons_of_mem _ ?_; k_mem))
local macro_rules | `(tactic| k_all) => `(tactic| first | with_reducible assumption | exact off_of_lt (by assumption))
local macro_rules | `(tactic| walk_at "CompEnd") => `(tactic| (k_dflt (refine LCg.CompEnd.intro (by k_asm) (by k_asm) _ (fun p hp => hp) (by k_asm) (by first | exact trivial | rfl) ?_)))
local macro_rules | `(tactic| walk_at "call type:tuple") => `(tactic| (k_here; (with_reducible show wpAny _ _ (call (Value.type _) [Value.ref _]) _ _ _); k_dflt (refine' tupleOfL ?k1 ?k2 ?k3 ?k4 ?_; (case k1 => k_asm); (case k2 => k_asm); (case k3 => with_reducible k_mem); (case k4 => omega); k_whole); intro D' h' F' N' l1; (try k_lt l1)))
local macro_rules | `(tactic| walk_at "call ref") => `(tactic| (k_here; (with_reducible show wpAny _ _ (call (Value.ref 70) _) _ _ _); k_dflt (refine' row_faults_c ?hx ?hd ?hi ?hR ?hT ?hz ?hzi ?hv ?hok _ _ ?d ?u _ _ _ _ _ _ _ _ _ _ _ _ _ _ _ ?k1 ?k2 ?k3 ?k4 ?k5 ?kK ?_; (case k1 => k_asm); (case k2 => k_asm); (case k3 => k_asm); (case k4 => k_asm); (case k5 => k_asm); (case kK => exact rfl); (case d => exact Nat.le_of_ble_eq_true rfl); (case u => exact Nat.le_of_ble_eq_true rfl); (case hx => k_mem); (case hd => k_mem); (case hi => k_mem); (case hR => k_mem); (case hT => k_mem); (case hz => omega); (case hzi => exact Nat.le_of_ble_eq_true rfl); (case hv => exact LtsIn.mono (by assumption) (by intro p hp; simp only [List.mem_cons, hp, or_true])); (case hok => assumption); skip); intro v9 h9 tk9 nx9 F9 N9 hP9; obtain ⟨q9, its9, k9, e9, e8, s9, z9, l9⟩ := hP9; subst e9; subst e8; (try dsimp only); (try k_fold)))
local macro_rules | `(tactic| walk_at "call ref") => `(tactic| (k_here; (with_reducible show wpAny _ _ (call (Value.ref 96) _) _ _ _); k_dflt (refine' due_c (c := 1) ?hc ?hT ?hz ?hv ?hok _ _ ?d ?u _ _ _ _ _ _ _ _ _ _ _ _ _ _ _ ?k1 ?k2 ?k3 ?k4 ?k5 ?kK ?_; (case k1 => k_asm); (case k2 => k_asm); (case k3 => k_asm); (case k4 => k_asm); (case k5 => k_asm); (case kK => exact rfl); (case d => exact Nat.le_of_ble_eq_true rfl); (case u => exact Nat.le_of_ble_eq_true rfl); (case hc => exact rfl); (case hT => k_mem); (case hz => omega); (case hv => exact LtsIn.mono (by assumption) (by intro p hp; simp only [List.mem_cons, hp, or_true])); (case hok => assumption); skip); intro v9 h9 tk9 nx9 F9 N9 hP9; obtain ⟨q9, its9, k9, e9, e8, s9, z9, l9⟩ := hP9; subst e9; subst e8; (try dsimp only); (try k_fold)))
local macro_rules | `(tactic| walk_at "call ref") => `(tactic| (k_here; (with_reducible show wpAny _ _ (call (Value.ref 96) _) _ _ _); k_dflt (refine' due_c (c := 2) ?hc ?hT ?hz ?hv ?hok _ _ ?d ?u _ _ _ _ _ _ _ _ _ _ _ _ _ _ _ ?k1 ?k2 ?k3 ?k4 ?k5 ?kK ?_; (case k1 => k_asm); (case k2 => k_asm); (case k3 => k_asm); (case k4 => k_asm); (case k5 => k_asm); (case kK => exact rfl); (case d => exact Nat.le_of_ble_eq_true rfl); (case u => exact Nat.le_of_ble_eq_true rfl); (case hc => exact rfl); (case hT => k_mem); (case hz => omega); (case hv => exact LtsIn.mono (by assumption) (by intro p hp; simp only [List.mem_cons, hp, or_true])); (case hok => assumption); skip); intro v9 h9 tk9 nx9 F9 N9 hP9; obtain ⟨q9, its9, k9, e9, e8, s9, z9, l9⟩ := hP9; subst e9; subst e8; (try dsimp only); (try k_fold)))
local macro_rules | `(tactic| walk_at "call ref") => `(tactic| (k_here; (with_reducible show wpAny _ _ (call (Value.ref 96) _) _ _ _); k_dflt (refine' due_c (c := 3) ?hc ?hT ?hz ?hv ?hok _ _ ?d ?u _ _ _ _ _ _ _ _ _ _ _ _ _ _ _ ?k1 ?k2 ?k3 ?k4 ?k5 ?kK ?_; (case k1 => k_asm); (case k2 => k_asm); (case k3 => k_asm); (case k4 => k_asm); (case k5 => k_asm); (case kK => exact rfl); (case d => exact Nat.le_of_ble_eq_true rfl); (case u => exact Nat.le_of_ble_eq_true rfl); (case hc => exact rfl); (case hT => k_mem); (case hz => omega); (case hv => exact LtsIn.mono (by assumption) (by intro p hp; simp only [List.mem_cons, hp, or_true])); (case hok => assumption); skip); intro v9 h9 tk9 nx9 F9 N9 hP9; obtain ⟨q9, its9, k9, e9, e8, s9, z9, l9⟩ := hP9; subst e9; subst e8; (try dsimp only); (try k_fold)))
local macro_rules | `(tactic| walk_at "compareOp Eq ref ref") => `(tactic| (k_here; (with_reducible show wpAny _ _ (compareOp CmpOp.Eq (Value.ref _) (Value.ref _)) _ _ _); k_dflt (refine' eq_kinds ?k1 ?k2 ?k3 ?k4 ?k5 ?k6 ?k7 ?_; (case k1 => k_asm); (case k2 => k_mem); (case k3 => k_mem); (case k4 => assumption); (case k5 => assumption); (case k6 => exact fun x hx => faults_ok x hx); (case k7 => exact Nat.le_of_ble_eq_true rfl); k_whole)))

theorem judged_1 {w mean mg mb news} {T : Addr} {nT : Nat} {vs : List Value} {ls : List Lt} {out : Str} {t1 t2 : Tok} {kept : Bool} (hT : (T, listOf vs.toArray nT) ∈ news) (hz : vs.length ≤ 8) (hv : LtsIn news vs ls) (hok : LsOk ls) :
    Cl w mean mg mb 101 400 400 news [.int 1 t1, .bool kept, .ref T, .str out t2] (fun v nx => v = .bool true ∧ nx = news) := by
  refine Cl.of ?_
  intro gd cn cs a ccd cl outer A₀ base h₀ L m s Q E B F X N T' hk hret
  refine wpAny_call ?_
  k_dflt cell_enter
  k_steps
  all_goals exact hret _ _ _ _ (by with_reducible assumption) (cb_drop (by with_reducible assumption) (by intro p hp; simp only [List.mem_cons, hp, or_true])) ⟨rfl, rfl⟩

theorem judged_2 {w mean mg mb news} {T : Addr} {nT : Nat} {vs : List Value} {ls : List Lt} {out : Str} {t1 t2 : Tok} {kept : Bool} (hT : (T, listOf vs.toArray nT) ∈ news) (hz : vs.length ≤ 8) (hv : LtsIn news vs ls) (hok : LsOk ls) :
    Cl w mean mg mb 101 400 400 news [.int 2 t1, .bool kept, .ref T, .str out t2] (fun v nx => v = .bool true ∧ nx = news) := by
  refine Cl.of ?_
  intro gd cn cs a ccd cl outer A₀ base h₀ L m s Q E B F X N T' hk hret
  refine wpAny_call ?_
  k_dflt cell_enter
  k_steps
  all_goals exact hret _ _ _ _ (by with_reducible assumption) (cb_drop (by with_reducible assumption) (by intro p hp; simp only [List.mem_cons, hp, or_true])) ⟨rfl, rfl⟩

theorem judged_3 {w mean mg mb news} {T : Addr} {nT : Nat} {vs : List Value} {ls : List Lt} {out : Str} {t1 t2 : Tok} {kept : Bool} (hT : (T, listOf vs.toArray nT) ∈ news) (hz : vs.length ≤ 8) (hv : LtsIn news vs ls) (hok : LsOk ls) :
    Cl w mean mg mb 101 400 400 news [.int 3 t1, .bool kept, .ref T, .str out t2] (fun v nx => v = .bool true ∧ nx = news) := by
  refine Cl.of ?_
  intro gd cn cs a ccd cl outer A₀ base h₀ L m s Q E B F X N T' hk hret
  refine wpAny_call ?_
  k_dflt cell_enter
  k_steps
  all_goals exact hret _ _ _ _ (by with_reducible assumption) (cb_drop (by with_reducible assumption) (by intro p hp; simp only [List.mem_cons, hp, or_true])) ⟨rfl, rfl⟩
end

/-! _law_draw -/
section
theorem fm0 {x c : Int} (hc : 2 ≤ c) : 0 ≤ x.fmod c := Int.fmod_nonneg_of_pos x (by omega)
theorem fm1 {x c : Int} (hc : 2 ≤ c) : x.fmod c < c := Int.fmod_lt_of_pos x (by omega)
theorem fd0 {x c : Int} (hx : 0 ≤ x) (hc : 2 ≤ c) : 0 ≤ x.fdiv c := Int.fdiv_nonneg hx (by omega)
theorem fd7 {x c : Int} (hx : 0 ≤ x) (h : x < 10 ^ 70) (hc : 2 ≤ c) : x.fdiv c < 10 ^ 70 := by
  rw [Int.fdiv_eq_ediv_of_nonneg x (by omega)]
  have := Int.ediv_le_self c hx
  omega
theorem pw0 {x : Int} : 0 ≤ x.fmod (10 ^ Int.toNat 60) := Int.fmod_nonneg_of_pos x (by decide)
theorem pw7 {x : Int} : x.fmod (10 ^ Int.toNat 60) < 10 ^ 70 := Int.lt_trans (Int.fmod_lt_of_pos x (by decide)) (by decide)
theorem low0 {x b : Int} (hb : 0 ≤ b) : 0 ≤ (x.fmod 1000000007 + 7919 * (b + 1) + 3) * (x.fmod 1000000007 + 7919 * (b + 1) + 3) * 69069 + (b + 1) := by
  have h := Int.fmod_nonneg_of_pos x (b := 1000000007) (by decide)
  have h2 : 0 ≤ (x.fmod 1000000007 + 7919 * (b + 1) + 3) * (x.fmod 1000000007 + 7919 * (b + 1) + 3) := Int.mul_nonneg (by omega) (by omega)
  omega
theorem low7 {x b : Int} (hb : 0 ≤ b) (hb2 : b ≤ 1000) : (x.fmod 1000000007 + 7919 * (b + 1) + 3) * (x.fmod 1000000007 + 7919 * (b + 1) + 3) * 69069 + (b + 1) < 10 ^ 70 := by
  have h := Int.fmod_nonneg_of_pos x (b := 1000000007) (by decide)
  have h' := Int.fmod_lt_of_pos x (b := 1000000007) (by decide)
  generalize x.fmod 1000000007 = y at h h' ⊢
  have h3 : (y + 7919 * (b + 1) + 3) * (y + 7919 * (b + 1) + 3) ≤ 2000000000 * 2000000000 := Int.mul_le_mul (by omega) (by omega) (by omega) (by omega)
  omega
abbrev jarO (a : Int) (ta : Tok) (b : Int) (tb : Tok) (c : Addr) (n : Nat) : Obj := listOf [.int a ta, .int b tb, .ref c].toArray n
theorem draw_F {w : World} {mean : ExcName → Option Value} {mg mb : Str → Option Value} {J C : Addr} {a b count : Int} {ta tb tc : Tok} {n nc : Nat} {cs : List Value} {ns : List Int} (hJC : @Ne Nat J C) (ha : 0 ≤ a) (ha2 : a < 10 ^ 70) (hb : 0 ≤ b) (hb2 : b ≤ 1000) (hI : IntsAre cs ns) (hn : 1 ≤ ns.length) (hn2 : ns.length ≤ 64) (hc : 2 ≤ count) (hc2 : count ≤ 12) :
  ∀ (gd : Option (List Code)) (cn : Str) (csc : Scope) (ad : Addr) (ccd : Value) (cl : List (Str × Addr)) (outer : List Env) (A₀ : Around) (base h₀ : Heap) (L : Addr) (m : Str → Option Value) (s : Shared) (Q E : Value → Shared → Prop),
    Below A₀ base outer h₀ → Fr h₀ L s.heap m → (hd.heap_39 w.params).In h₀ → News h₀ L s.heap [(J, jarO a ta b tb C n), (C, listOf cs.toArray nc)] → Top hd.view_39 (looseW hd.view_39 []) mean mg mb h₀ → csc.kind = .function →
    (∀ (g : Int) (tg : Tok) (h' : Heap) (tk' : Nat) (a' : Int) (ta' : Tok) (b' : Int) (tb' : Tok) (n' : Nat), Fr h₀ L h' m → News h₀ L h' [(J, jarO a' ta' b' tb' C n'), (C, listOf cs.toArray nc)] → (∀ x o, s.heap.get? x = some o → x ∉ [J, C] → h'.get? x = some o) →
      0 ≤ g → g < count → 0 ≤ a' → a' < 10 ^ 70 → 0 ≤ b' → b' ≤ b + 1 → Q (.int g tg) { s with heap := h', toks := tk' }) →
    wpAny (model PySem.Challenge.rw_on0087_01.row.prog w) (ktrTop 400 400 gd cn csc L ad ccd cl outer) (call (.ref 77) [.ref J, .int count tc]) Q E s := by
  intro gd cn csc ad ccd cl outer A₀ base h₀ L m s Q E B F X N T hk hret
  refine wpAny_call ?_
  k_dflt (refine' code_defG ?k1 ?k2 ?k3 ?k4 ?k5 ?kA ?kF ?kK ?k6 ?k7 ?k8 ?k9 ?kB ?_ ?c2 ?c3 ?c4 ?c5; (case kA => exact rfl); (case kF => exact rfl); (case kK => assumption); (case k1 => k_asm); (case k2 => k_asm); (case k3 => k_asm); (case k4 => k_asm); (case k5 => k_asm); (case k6 => k_is); (case k7 => k_is); (case k8 => ktr_room); (case k9 => exact BindsTo.of_eq rfl); (case c5 => decide); (case kB => exact locs rfl); (case c2 => exact rfl); (case c3 => exact rfl); (case c4 => exact rfl); k_whole; intro g' L' h' FG' F' N' B' X' T' G'; (try dsimp only); (try k_lift B'); (try k_fold))

  k_steps
  · exact hret _ _ _ _ _ _ _ _ _ (by with_reducible assumption) (by with_reducible assumption) (keepF (by with_reducible assumption) G') (by omega) (by omega) ha ha2 (by omega) (by omega)
  all_goals exact hret _ _ _ _ _ _ _ _ _ (by with_reducible assumption) (by with_reducible assumption) (keepF (by with_reducible assumption) G') (fm0 hc) (fm1 hc) (fd0 (by first | exact ha | exact pw0 | exact low0 hb) hc) (fd7 (by first | exact ha | exact pw0 | exact low0 hb) (by first | exact ha2 | exact pw7 | exact low7 hb hb2) hc) (by omega) (by omega)
theorem draw_c {w : World} {mean : ExcName → Option Value} {mg mb : Str → Option Value} {J C : Addr} {a b count : Int} {ta tb tc : Tok} {n nc : Nat} {cs : List Value} {ns : List Int} {led : List (Addr × Obj)} {gl : Obj → List (Addr × Obj)} (U : UpdF J (jarO a ta b tb C n) led gl) (hC : (C, listOf cs.toArray nc) ∈ led) (hJC : @Ne Nat J C) (ha : 0 ≤ a) (ha2 : a < 10 ^ 70) (hb : 0 ≤ b) (hb2 : b ≤ 1000) (hI : IntsAre cs ns) (hn : 1 ≤ ns.length) (hn2 : ns.length ≤ 64) (hc : 2 ≤ count) (hc2 : count ≤ 12) :
  ∀ dp un, dp ≤ 400 → un ≤ 400 → ∀ (gd : Option (List Code)) (cn : Str) (csc : Scope) (ad : Addr) (ccd : Value) (cl : List (Str × Addr)) (outer : List Env) (A₀ : Around) (base h₀ : Heap) (L : Addr) (m : Str → Option Value) (s : Shared) (Q E : Value → Shared → Prop),
    Below A₀ base outer h₀ → Fr h₀ L s.heap m → (hd.heap_39 w.params).In h₀ → News h₀ L s.heap led → Top hd.view_39 (looseW hd.view_39 []) mean mg mb h₀ → csc.kind = .function →
    (∀ (g : Int) (tg : Tok) (h' : Heap) (tk' : Nat) (a' : Int) (ta' : Tok) (b' : Int) (tb' : Tok) (n' : Nat), Fr h₀ L h' m → News h₀ L h' (gl (jarO a' ta' b' tb' C n')) →
      0 ≤ g → g < count → 0 ≤ a' → a' < 10 ^ 70 → 0 ≤ b' → b' ≤ b + 1 → Q (.int g tg) { s with heap := h', toks := tk' }) →
    wpAny (model PySem.Challenge.rw_on0087_01.row.prog w) (ktrTop dp un gd cn csc L ad ccd cl outer) (call (.ref 77) [.ref J, .int count tc]) Q E s := by
  intro dp un hdp hun gd cn csc ad ccd cl outer A₀ base h₀ L m s Q E B F X N T hk hret Γ p hΓ
  obtain ⟨pre, post, rfl, hg, o1, o2⟩ := U.split
  have NJ := N (J, jarO a ta b tb C n) (List.mem_append.mpr (.inr (.head _)))
  have NC := N _ hC
  refine draw_F (ta := ta) (tb := tb) (n := n) (nc := nc) hJC ha ha2 hb hb2 hI hn hn2 hc hc2 gd cn csc ad ccd cl outer A₀ base h₀ L m s Q E B F X ?_ T hk ?_ Γ p ⟨hΓ.1, Nat.le_trans hΓ.2.1 hdp, hΓ.2.2.1, hΓ.2.2.2.1, Nat.le_trans hΓ.2.2.2.2 hun⟩
  · intro p hp
    rcases List.mem_cons.mp hp with rfl | hp
    · exact NJ
    · rw [List.mem_singleton.mp hp]; exact NC
  · intro g tg h' tk' a' ta' b' tb' n' F' N' keep c1 c2 c3 c4 c5 c6
    refine hret g tg h' tk' a' ta' b' tb' n' F' ?_ c1 c2 c3 c4 c5 c6
    rw [hg]
    have other : ∀ p, p ∈ pre ++ (J, jarO a ta b tb C n) :: post → p.1 ≠ J → h'.get? p.1 = some p.2 ∧ p.1 ≠ L ∧ h₀.get? p.1 = none := by
      intro p hp hpJ
      refine ⟨?_, (N p hp).2⟩
      by_cases e : p.1 = C
      · have g1 := (N p hp).1
        rw [e, NC.1] at g1
        rw [e, ← Option.some.inj g1]
        exact (N' _ (.tail _ (.head _))).1
      · refine keep _ _ (N p hp).1 fun hm => ?_
        rcases List.mem_cons.mp hm with q | hm
        · exact hpJ q
        · exact e (List.mem_singleton.mp hm)
    intro p hp
    rcases List.mem_append.mp hp with hp | hp
    · exact other p (List.mem_append.mpr (.inl hp)) (o1 p hp)
    · rcases List.mem_cons.mp hp with rfl | hp
      · exact N' _ (.head _)
      · exact other p (List.mem_append.mpr (.inr (.tail _ hp))) (o2 p hp)
end

/-! the law's loops -/
section
theorem take1_of {ws : List Value} {ns : List Int} (_h : IntsAre ws (List.take 40 (ns ++ [0]))) : 1 ≤ (List.take 40 (ns ++ [0])).length := by
  rw [List.length_take, List.length_append, List.length_singleton]; omega
theorem take2_of {ws : List Value} {ns : List Int} (_h : IntsAre ws (List.take 40 (ns ++ [0]))) : (List.take 40 (ns ++ [0])).length ≤ 64 := by
  rw [List.length_take]; omega
structure Jar where
  a : Int
  ta : Tok
  b : Int
  tb : Tok
  n : Nat
abbrev Jar.obj (d : Jar) (C : Addr) : Obj := jarO d.a d.ta d.b d.tb C d.n
def JarOk (d : Jar) (k : Int) : Prop := 0 ≤ d.a ∧ d.a < 10 ^ 70 ∧ 0 ≤ d.b ∧ d.b ≤ k
structure LSt where
  vs : List Value
  k : Nat
  jar : Jar
  tl : List (Addr × Obj)
def LOk (Ll J I C : Addr) (i j : Nat) (d : LSt) : Prop :=
  JarOk d.jar (5 + 20 * (i : Int) + 3 * (j : Int)) ∧ d.vs.length ≤ j ∧ (∃ ls, LtsIn d.tl d.vs ls ∧ LsOk ls) ∧ (∀ p ∈ d.tl, @Ne Nat p.1 Ll) ∧ (∀ p ∈ d.tl, @Ne Nat p.1 J) ∧ (∀ p ∈ d.tl, @Ne Nat p.1 I) ∧ (∀ p ∈ d.tl, @Ne Nat p.1 C)
section
variable {prog : Program} {w : World} {A' : Around} {E : Value → Shared → Prop} {s : Shared} {env : Env} {h₀ : Heap} {body : List Stmt} {Q : Flow → Shared → Prop}
theorem turns_loop {J C r : Addr} {a0 b0 hi : Int} {ta0 tb0 t₀ u₀ v₀ : Tok} {n0 nc : Nat} {cs : List Value} {led : List (Addr × Obj)} {m₀ : Str → Option Value}
    (hh : A'.handled = none) (F : Fr h₀ env.locals s.heap m₀) (N : News h₀ env.locals s.heap led) (hr : IsRange s.heap r 0 hi 1 t₀ u₀ v₀) (hi0 : 0 ≤ hi) (hi4 : hi ≤ 4) (mJ : m₀ (Str.ofString "jar") = some (.ref J))
    (hJ : (J, jarO a0 ta0 b0 tb0 C n0) ∈ led) (hC : (C, listOf cs.toArray nc) ∈ led) (ga : 0 ≤ a0) (ga2 : a0 < 10 ^ 70) (gb : 0 ≤ b0) (gb2 : b0 ≤ 1)
    (turn : ∀ (i : Nat) (t : Tok) (a : Int) (ta : Tok) (b : Int) (tb : Tok) (k : Nat) (u : Str → Option Value) h tk I oI, i < 4 → 0 ≤ a → a < 10 ^ 70 → 0 ≤ b → b ≤ 1 + 20 * (i : Int) → @Ne Nat J I → @Ne Nat C I →
      Fr h₀ env.locals h (fun y => if y = Str.ofString "turn" then some (.int (i : Int) t) else kstB u [(Str.ofString "jar", .ref J)] y) → News h₀ env.locals h [(I, oI), (J, jarO a ta b tb C k), (C, listOf cs.toArray nc)] →
      wpAny (model prog w) A' (execs body env) (EndS (fun d : Jar => [(J, d.obj C)]) (fun _ => [(Str.ofString "jar", .ref J)]) (fun d => JarOk d (1 + 20 * ((i + 1 : Nat) : Int))) [(C, listOf cs.toArray nc)] h₀ env.locals I oI { s with heap := h, toks := tk } Q) E { s with heap := h, toks := tk })
    (done : ∀ a ta b tb k (u : Str → Option Value) h tk, Fr h₀ env.locals h (kstB u [(Str.ofString "jar", .ref J)]) → News h₀ env.locals h [(J, jarO a ta b tb C k), (C, listOf cs.toArray nc)] → Q .next { s with heap := h, toks := tk }) :
    wpAny (model prog w) A' (pyIter (.ref r)) (fun it s₂ => LoopAtV prog w A' h₀ env (Str.ofString "turn") body Q E it s₂) E s := by
  refine loopR (n := hi.toNat) (fun d : Jar => [(J, d.obj C)]) (fun _ => [(Str.ofString "jar", .ref J)]) (fun i d => JarOk d (1 + 20 * (i : Int))) [(C, listOf cs.toArray nc)] ⟨a0, ta0, b0, tb0, n0⟩ hh F N hr (small_one (by omega) (by omega) (by omega) (by omega)) (by rw [rangeSize_nat]; simp) ?_ (by intro p hp; rw [List.mem_singleton.mp hp]; exact mJ) ⟨ga, ga2, gb, by dsimp only; omega⟩ ?_ ?_
  · intro p hp
    rcases List.mem_append.mp hp with hp | hp
    · rw [List.mem_singleton.mp hp]; exact hJ
    · rw [List.mem_singleton.mp hp]; exact hC
  · rintro i t ⟨a, ta, b, tb, k⟩ u h tk I oI hi' hI ⟨h1, h2, h3, h4⟩ F₁ N₁
    exact turn i t a ta b tb k u h tk I oI (by omega) h1 h2 h3 h4 (hI (J, _) (.head _)) (hI (C, _) (.tail _ (.head _))) F₁ N₁
  · rintro ⟨a, ta, b, tb, k⟩ u h tk _ F₁ N₁
    exact done a ta b tb k u h tk F₁ N₁
theorem letters_loop {Ll J I C r : Addr} {oI : Obj} {a0 b0 hi cv : Int} {ta0 tb0 t₀ u₀ v₀ tc : Tok} {n0 nc nl i : Nat} {kp : Bool} {cs : List Value} {led : List (Addr × Obj)} {m₀ : Str → Option Value}
    (hh : A'.handled = none) (F : Fr h₀ env.locals s.heap m₀) (N : News h₀ env.locals s.heap led) (hr : IsRange s.heap r 0 hi 1 t₀ u₀ v₀) (hi0 : 0 ≤ hi) (hi4 : hi ≤ 4)
    (mJ : m₀ (Str.ofString "jar") = some (.ref J)) (mL : m₀ (Str.ofString "letters") = some (.ref Ll)) (mc : m₀ (Str.ofString "count") = some (.int cv tc)) (mk : m₀ (Str.ofString "kept") = some (.bool kp))
    (hL : (Ll, listOf ([] : List Value).toArray nl) ∈ led) (hJ : (J, jarO a0 ta0 b0 tb0 C n0) ∈ led) (hI : (I, oI) ∈ led) (hC : (C, listOf cs.toArray nc) ∈ led) (ga : 0 ≤ a0) (ga2 : a0 < 10 ^ 70) (gb : 0 ≤ b0) (gb2 : b0 ≤ 5 + 20 * (i : Int))
    (turn : ∀ (j : Nat) (t : Tok) (vs : List Value) (k : Nat) (a : Int) (ta : Tok) (b : Int) (tb : Tok) (n : Nat) (ls : List Lt) (tl : List (Addr × Obj)) (u : Str → Option Value) h tk I₂ oI₂, j < 4 → 0 ≤ a → a < 10 ^ 70 → 0 ≤ b → b ≤ 5 + 20 * (i : Int) + 3 * (j : Int) → vs.length ≤ j → LtsIn tl vs ls → LsOk ls →
      (∀ p ∈ tl, @Ne Nat p.1 Ll) → (∀ p ∈ tl, @Ne Nat p.1 J) → (∀ p ∈ tl, @Ne Nat p.1 I) → (∀ p ∈ tl, @Ne Nat p.1 C) → @Ne Nat Ll I₂ → @Ne Nat J I₂ → @Ne Nat I I₂ → @Ne Nat C I₂ → (∀ p ∈ tl, @Ne Nat p.1 I₂) →
      Fr h₀ env.locals h (fun y => if y = Str.ofString "step" then some (.int (j : Int) t) else kstB u [(Str.ofString "jar", .ref J), (Str.ofString "letters", .ref Ll), (Str.ofString "count", .int cv tc), (Str.ofString "kept", .bool kp)] y) →
      News h₀ env.locals h ((I₂, oI₂) :: (Ll, listOf vs.toArray k) :: (J, jarO a ta b tb C n) :: (I, oI) :: (C, listOf cs.toArray nc) :: tl) →
      wpAny (model prog w) A' (execs body env) (EndS (fun d : LSt => (Ll, listOf d.vs.toArray d.k) :: (J, d.jar.obj C) :: (I, oI) :: (C, listOf cs.toArray nc) :: d.tl) (fun _ => [(Str.ofString "jar", .ref J), (Str.ofString "letters", .ref Ll), (Str.ofString "count", .int cv tc), (Str.ofString "kept", .bool kp)]) (LOk Ll J I C i (j + 1)) [] h₀ env.locals I₂ oI₂ { s with heap := h, toks := tk } Q) E { s with heap := h, toks := tk })
    (done : ∀ vs k a ta b tb n ls tl (u : Str → Option Value) h tk, 0 ≤ a → a < 10 ^ 70 → 0 ≤ b → b ≤ 17 + 20 * (i : Int) → vs.length ≤ 4 → LtsIn tl vs ls → LsOk ls →
      (∀ p ∈ tl, @Ne Nat p.1 Ll) → (∀ p ∈ tl, @Ne Nat p.1 J) → (∀ p ∈ tl, @Ne Nat p.1 I) → (∀ p ∈ tl, @Ne Nat p.1 C) →
      Fr h₀ env.locals h (kstB u [(Str.ofString "jar", .ref J), (Str.ofString "letters", .ref Ll), (Str.ofString "count", .int cv tc), (Str.ofString "kept", .bool kp)]) →
      News h₀ env.locals h ((Ll, listOf vs.toArray k) :: (J, jarO a ta b tb C n) :: (I, oI) :: (C, listOf cs.toArray nc) :: tl) → Q .next { s with heap := h, toks := tk }) :
    wpAny (model prog w) A' (pyIter (.ref r)) (fun it s₂ => LoopAtV prog w A' h₀ env (Str.ofString "step") body Q E it s₂) E s := by
  refine loopR (n := hi.toNat) (fun d : LSt => (Ll, listOf d.vs.toArray d.k) :: (J, d.jar.obj C) :: (I, oI) :: (C, listOf cs.toArray nc) :: d.tl) (fun _ => [(Str.ofString "jar", .ref J), (Str.ofString "letters", .ref Ll), (Str.ofString "count", .int cv tc), (Str.ofString "kept", .bool kp)]) (LOk Ll J I C i) [] ⟨[], nl, ⟨a0, ta0, b0, tb0, n0⟩, []⟩ hh F N hr (small_one (by omega) (by omega) (by omega) (by omega)) (by rw [rangeSize_nat]; simp) ?_ ?_ ?_ ?_ ?_
  · intro p hp
    rw [List.append_nil] at hp
    simp only [List.mem_cons, List.not_mem_nil, or_false] at hp
    rcases hp with rfl | rfl | rfl | rfl
    · exact hL
    · exact hJ
    · exact hI
    · exact hC
  · intro p hp
    simp only [List.mem_cons, List.not_mem_nil, or_false] at hp
    rcases hp with rfl | rfl | rfl | rfl
    · exact mJ
    · exact mL
    · exact mc
    · exact mk
  · exact ⟨⟨ga, ga2, gb, by dsimp only; omega⟩, Nat.le_refl _, ⟨[], .nil, fun _ h => (nomatch h)⟩, fun _ h => (nomatch h), fun _ h => (nomatch h), fun _ h => (nomatch h), fun _ h => (nomatch h)⟩
  · rintro j t ⟨vs, k, ⟨a, ta, b, tb, n⟩, tl⟩ u h tk I₂ oI₂ hj hI₂ ⟨⟨h1, h2, h3, h4⟩, h5, ⟨ls, h6, h7⟩, h8, h9, h10, h11⟩ F₁ N₁
    rw [List.append_nil] at N₁ hI₂
    exact turn j t vs k a ta b tb n ls tl u h tk I₂ oI₂ (by omega) h1 h2 h3 h4 h5 h6 h7 h8 h9 h10 h11 (hI₂ (Ll, _) (.head _)) (hI₂ (J, _) (.tail _ (.head _))) (hI₂ (I, _) (.tail _ (.tail _ (.head _)))) (hI₂ (C, _) (.tail _ (.tail _ (.tail _ (.head _))))) (fun p hp => hI₂ p (.tail _ (.tail _ (.tail _ (.tail _ hp))))) F₁ N₁
  · rintro ⟨vs, k, ⟨a, ta, b, tb, n⟩, tl⟩ u h tk ⟨⟨h1, h2, h3, h4⟩, h5, ⟨ls, h6, h7⟩, h8, h9, h10, h11⟩ F₁ N₁
    rw [List.append_nil] at N₁
    exact done vs k a ta b tb n ls tl u h tk h1 h2 h3 (by dsimp only at h4; omega) (by dsimp only at h5; omega) h6 h7 h8 h9 h10 h11 F₁ N₁
end
theorem item_syms {g : Int} (h0 : 0 ≤ g) (h1 : g < 10) : Txt.item (Str.ofString "01xb?rfpn*") g ∈ syms := by
  have h : g = 0 ∨ g = 1 ∨ g = 2 ∨ g = 3 ∨ g = 4 ∨ g = 5 ∨ g = 6 ∨ g = 7 ∨ g = 8 ∨ g = 9 := by omega
  rcases h with rfl | rfl | rfl | rfl | rfl | rfl | rfl | rfl | rfl | rfl <;> decide +kernel
theorem item_levs {g : Int} (h0 : 0 ≤ g) (h1 : g < 5) : Txt.item (Str.ofString "01xb?") g ∈ levs := by
  have h : g = 0 ∨ g = 1 ∨ g = 2 ∨ g = 3 ∨ g = 4 := by omega
  rcases h with rfl | rfl | rfl | rfl | rfl <;> decide +kernel
section
variable {h₀ h' : Heap} {L Ll J I C I₂ : Addr} {oI oI₂ : Obj} {vs cs : List Value} {k nc n i j tk : Nat} {a b : Int} {ta tb : Tok} {ls : List Lt} {tl : List (Addr × Obj)} {ps : List (Str × Value)} {m' : Str → Option Value} {s₁ : Shared} {Q : Flow → Shared → Prop}
theorem lsOk_snoc {l : Lt} (h : LsOk ls) (hl : l.Ok) : LsOk (ls ++ [l]) := by
  intro x hx
  rcases List.mem_append.mp hx with hx | hx
  · exact h x hx
  · rw [List.mem_singleton.mp hx]; exact hl
theorem end_sym {x : Str} {t : Tok} (F : Fr h₀ L h' m') (N : News h₀ L h' ((I₂, oI₂) :: (Ll, listOf (vs.toArray.push (.str x t)) k) :: (J, jarO a ta b tb C n) :: (I, oI) :: (C, listOf cs.toArray nc) :: tl)) (hx : x ∈ syms)
    (hvs : LtsIn tl vs ls) (hok : LsOk ls) (hvl : vs.length ≤ j) (h1 : 0 ≤ a) (h2 : a < 10 ^ 70) (h3 : 0 ≤ b) (h4 : b ≤ 5 + 20 * (i : Int) + 3 * ((j + 1 : Nat) : Int))
    (f1 : ∀ p ∈ tl, @Ne Nat p.1 Ll) (f2 : ∀ p ∈ tl, @Ne Nat p.1 J) (f3 : ∀ p ∈ tl, @Ne Nat p.1 I) (f4 : ∀ p ∈ tl, @Ne Nat p.1 C) (i1 : @Ne Nat Ll I₂) (i2 : @Ne Nat J I₂) (i3 : @Ne Nat I I₂) (i4 : @Ne Nat C I₂) (i5 : ∀ p ∈ tl, @Ne Nat p.1 I₂) (hp : ∀ p ∈ ps, m' p.1 = some p.2) :
    EndS (fun d : LSt => (Ll, listOf d.vs.toArray d.k) :: (J, d.jar.obj C) :: (I, oI) :: (C, listOf cs.toArray nc) :: d.tl) (fun _ => ps) (LOk Ll J I C i (j + 1)) [] h₀ L I₂ oI₂ s₁ Q .next { s₁ with heap := h', toks := tk } := by
  rw [List.push_toArray] at N
  refine EndS.mk ⟨vs ++ [.str x t], k, ⟨a, ta, b, tb, n⟩, tl⟩ F (by rw [List.append_nil]; exact N) ?_ hp ?_
  · intro p hp
    rcases List.mem_cons.mp hp with rfl | hp
    · exact i1
    rcases List.mem_cons.mp hp with rfl | hp
    · exact i2
    rcases List.mem_cons.mp hp with rfl | hp
    · exact i3
    rcases List.mem_cons.mp hp with rfl | hp
    · exact i4
    exact i5 p hp
  · refine ⟨⟨h1, h2, h3, h4⟩, ?_, ⟨ls ++ [.sym x], hvs.append (.cons (.sym x t) .nil), lsOk_snoc (l := .sym x) hok hx⟩, f1, f2, f3, f4⟩
    dsimp only
    rw [List.length_append, List.length_singleton]; omega
theorem end_edge {D : Addr} {x y : Str} {t tx ty : Tok} (F : Fr h₀ L h' m') (N : News h₀ L h' ((D, tupO [.str (Str.ofString "edge") t, .str x tx, .str y ty] 0) :: (I₂, oI₂) :: (Ll, listOf (vs.toArray.push (.ref D)) k) :: (J, jarO a ta b tb C n) :: (I, oI) :: (C, listOf cs.toArray nc) :: tl)) (hx : x ∈ levs) (hy : y ∈ levs)
    (hD : I₂ < D ∧ Ll < D ∧ J < D ∧ I < D ∧ C < D ∧ AllLt D tl)
    (hvs : LtsIn tl vs ls) (hok : LsOk ls) (hvl : vs.length ≤ j) (h1 : 0 ≤ a) (h2 : a < 10 ^ 70) (h3 : 0 ≤ b) (h4 : b ≤ 5 + 20 * (i : Int) + 3 * ((j + 1 : Nat) : Int))
    (f1 : ∀ p ∈ tl, @Ne Nat p.1 Ll) (f2 : ∀ p ∈ tl, @Ne Nat p.1 J) (f3 : ∀ p ∈ tl, @Ne Nat p.1 I) (f4 : ∀ p ∈ tl, @Ne Nat p.1 C) (i1 : @Ne Nat Ll I₂) (i2 : @Ne Nat J I₂) (i3 : @Ne Nat I I₂) (i4 : @Ne Nat C I₂) (i5 : ∀ p ∈ tl, @Ne Nat p.1 I₂) (hp : ∀ p ∈ ps, m' p.1 = some p.2) :
    EndS (fun d : LSt => (Ll, listOf d.vs.toArray d.k) :: (J, d.jar.obj C) :: (I, oI) :: (C, listOf cs.toArray nc) :: d.tl) (fun _ => ps) (LOk Ll J I C i (j + 1)) [] h₀ L I₂ oI₂ s₁ Q .next { s₁ with heap := h', toks := tk } := by
  rw [List.push_toArray] at N
  obtain ⟨q1, q2, q3, q4, q5, q6⟩ := hD
  refine EndS.mk ⟨vs ++ [.ref D], k, ⟨a, ta, b, tb, n⟩, (D, tupO [.str (Str.ofString "edge") t, .str x tx, .str y ty] 0) :: tl⟩ F ?_ ?_ hp ?_
  · rw [List.append_nil]
    intro p hp
    refine N p ?_
    rcases List.mem_cons.mp hp with rfl | hp
    · exact .tail _ (.head _)
    rcases List.mem_cons.mp hp with rfl | hp
    · exact .tail _ (.tail _ (.head _))
    rcases List.mem_cons.mp hp with rfl | hp
    · exact .tail _ (.tail _ (.tail _ (.head _)))
    rcases List.mem_cons.mp hp with rfl | hp
    · exact .tail _ (.tail _ (.tail _ (.tail _ (.head _))))
    rcases List.mem_cons.mp hp with rfl | hp
    · exact .tail _ (.tail _ (.tail _ (.tail _ (.tail _ (.head _)))))
    rcases List.mem_cons.mp hp with rfl | hp
    · exact .head _
    exact .tail _ (.tail _ (.tail _ (.tail _ (.tail _ (.tail _ hp)))))
  · intro p hp
    rcases List.mem_cons.mp hp with rfl | hp
    · exact i1
    rcases List.mem_cons.mp hp with rfl | hp
    · exact i2
    rcases List.mem_cons.mp hp with rfl | hp
    · exact i3
    rcases List.mem_cons.mp hp with rfl | hp
    · exact i4
    rcases List.mem_cons.mp hp with rfl | hp
    · exact Ne.symm (Nat.ne_of_lt q1)
    exact i5 p hp
  · refine ⟨⟨h1, h2, h3, h4⟩, ?_, ⟨ls ++ [.edge x y], (hvs.mono fun p hp => .tail _ hp).append (.cons (.edge rfl (.head _)) .nil), lsOk_snoc (l := .edge x y) hok (And.intro hx hy)⟩, ?_, ?_, ?_, ?_⟩
    · dsimp only
      rw [List.length_append, List.length_singleton]; omega
    · exact List.forall_mem_cons.mpr ⟨Ne.symm (Nat.ne_of_lt q2), f1⟩
    · exact List.forall_mem_cons.mpr ⟨Ne.symm (Nat.ne_of_lt q3), f2⟩
    · exact List.forall_mem_cons.mpr ⟨Ne.symm (Nat.ne_of_lt q4), f3⟩
    · exact List.forall_mem_cons.mpr ⟨Ne.symm (Nat.ne_of_lt q5), f4⟩
theorem end_turn {oL : Obj} (F : Fr h₀ L h' m') (N : News h₀ L h' ((Ll, oL) :: (J, jarO a ta b tb C n) :: (I, oI) :: (C, listOf cs.toArray nc) :: tl)) (h1 : 0 ≤ a) (h2 : a < 10 ^ 70) (h3 : 0 ≤ b) (h4 : b ≤ 1 + 20 * ((i + 1 : Nat) : Int)) (d1 : @Ne Nat J I) (hp : ∀ p ∈ ps, m' p.1 = some p.2) :
    EndS (fun d : Jar => [(J, d.obj C)]) (fun _ => ps) (fun d => JarOk d (1 + 20 * ((i + 1 : Nat) : Int))) [(C, listOf cs.toArray nc)] h₀ L I oI s₁ Q .next { s₁ with heap := h', toks := tk } := by
  refine EndS.mk ⟨a, ta, b, tb, n⟩ F ?_ ?_ hp ⟨h1, h2, h3, h4⟩
  · intro p hp
    refine N p ?_
    rcases List.mem_cons.mp hp with rfl | hp
    · exact .tail _ (.tail _ (.head _))
    rcases List.mem_cons.mp hp with rfl | hp
    · exact .tail _ (.head _)
    rw [List.mem_singleton.mp hp]
    exact .tail _ (.tail _ (.tail _ (.head _)))
  · intro p hp
    rw [List.mem_singleton.mp hp]; exact d1
end
abbrev pairsL : List Str := ["x1", "00", "11", "xx", "bb", "??", "0b", "?x"]
theorem strs_get {vs : List Value} {xs : List Str} (h : StrsAre vs xs) : ∀ {i : Nat} {v : Value}, vs[i]? = some v → ∃ x t, v = .str x t ∧ x ∈ xs := by
  induction h with
  | nil => intro i v e; simp at e
  | cons y t _ ih =>
    intro i v e
    cases i with
    | zero => exact ⟨y, t, by simp at e; exact e.symm, .head _⟩
    | succ i =>
      obtain ⟨x, t', e', hx⟩ := ih (by simpa using e)
      exact ⟨x, t', e', .tail _ hx⟩
theorem pairs_len : ∀ x ∈ pairsL, x.length = 2 := by decide +kernel
theorem pairs_ok0 : ∀ x ∈ pairsL, Txt.item x 0 ∈ levs := by decide +kernel
theorem pairs_ok1 : ∀ x ∈ pairsL, Txt.item x 1 ∈ levs := by decide +kernel
theorem pairs_ok {x : Str} (h : x ∈ pairsL) : LsOk [.edge (Txt.item x 0) (Txt.item x 1)] := by
  intro l hl
  rw [List.mem_singleton.mp hl]
  exact And.intro (pairs_ok0 x h) (pairs_ok1 x h)
end

/-! the law -/
section
local macro_rules | `(tactic| k_mem) => `(tactic| first | with_reducible assumption | with_reducible exact List.mem_cons_self .. | (refine' List.mem_cons_of_mem _ ?_; k_mem))
local macro_rules | `(tactic| k_all) => `(tactic| first | with_reducible assumption | exact off_of_lt (by assumption))
theorem judged_c {w mean mg mb news} {T : Addr} {nT : Nat} {cv : Int} {vs : List Value} {ls : List Lt} {out : Str} {t1 t2 : Tok} {kept : Bool} (h1 : 1 ≤ cv) (h3 : cv ≤ 3) (hT : (T, listOf vs.toArray nT) ∈ news) (hz : vs.length ≤ 8) (hv : LtsIn news vs ls) (hok : LsOk ls) :
    Cl w mean mg mb 101 400 400 news [.int cv t1, .bool kept, .ref T, .str out t2] (fun v nx => v = .bool true ∧ nx = news) := by
  have h : cv = 1 ∨ cv = 2 ∨ cv = 3 := by omega
  rcases h with rfl | rfl | rfl
  · exact judged_1 hT hz hv hok
  · exact judged_2 hT hz hv hok
  · exact judged_3 hT hz hv hok
local macro_rules | `(tactic| walk_at "call ref") => `(tactic| (k_here; (with_reducible show wpAny _ _ (call (Value.ref 77) _) _ _ _); k_dflt (refine' draw_c ?U ?hC ?hJC ?ha ?ha2 ?hb ?hb2 ?hI ?hn ?hn2 ?hc ?hc2 _ _ ?d ?u _ _ _ _ _ _ _ _ _ _ _ _ _ _ _ ?k1 ?k2 ?k3 ?k4 ?k5 ?kK ?_; (case k1 => k_asm); (case k2 => k_asm); (case k3 => k_asm); (case k4 => k_asm); (case k5 => k_asm); (case kK => exact rfl); (case d => exact Nat.le_of_ble_eq_true rfl); (case u => exact Nat.le_of_ble_eq_true rfl); (case U => k_updF); (case hC => k_mem); (case hJC => first | assumption | omega); (case ha => first | assumption | decide); (case ha2 => first | assumption | decide); (case hb => first | assumption | decide); (case hb2 => omega); (case hI => assumption); (case hn => assumption); (case hn2 => assumption); (case hc => decide); (case hc2 => decide); skip); intro g9 tg9 h9 tk9 a9 ta9 b9 tb9 n9 F9 N9 c91 c92 c93 c94 c95 c96; (try dsimp only at N9); (try dsimp only); (try k_fold)))
local macro_rules | `(tactic| walk_at "call ref") => `(tactic| (k_here; (with_reducible show wpAny _ _ (call (Value.ref 101) _) _ _ _); k_dflt (refine' judged_c ?h1 ?h3 ?hT ?hz ?hv ?hok _ _ ?d ?u _ _ _ _ _ _ _ _ _ _ _ _ _ _ _ ?k1 ?k2 ?k3 ?k4 ?k5 ?kK ?_; (case k1 => k_asm); (case k2 => k_asm); (case k3 => k_asm); (case k4 => k_asm); (case k5 => k_asm); (case kK => exact rfl); (case d => exact Nat.le_of_ble_eq_true rfl); (case u => exact Nat.le_of_ble_eq_true rfl); (case h1 => omega); (case h3 => omega); (case hT => k_mem); (case hz => first | omega | exact Nat.le_of_ble_eq_true rfl); (case hv => first | exact LtsIn.mono (by assumption) (by intro p hp; simp only [List.mem_cons, hp, or_true]) | exact .cons (.edge rfl (by k_mem)) .nil); (case hok => first | assumption | (intro l hl; rw [List.mem_singleton.mp hl]; exact And.intro (by decide +kernel) (by decide +kernel))); skip); intro v9 h9 tk9 nx9 F9 N9 hP9; (have e9 := hP9.1); (have e8 := hP9.2); clear hP9; subst e9; subst e8; (try dsimp only); (try k_fold)))
local macro_rules | `(tactic| walk_at "exec For Name List cons nil") => `(tactic| (k_here; (rename Fr _ _ _ _ => lF'); (with_unfolding_all refine' For_invVF lF' ?k1 ?k2 ?_; (case k1 => exact rfl); (case k2 => exact rfl); k_whole)))
local macro_rules | `(tactic| walk_at "call type:range") => `(tactic| (k_here; (with_reducible show wpAny _ _ (call _ [Value.int _ _]) _ _ _); k_dflt (refine' range1_rows ?k1 ?k2 ?_; (case k1 => k_asm); (case k2 => k_asm); k_whole); intro h' tk t₁ u₁ v₁ R' F' N' K'))
local macro_rules | `(tactic| walk_at "exec For Name Call cons nil") => `(tactic| (k_here; (rename Fr _ _ _ _ => lF'); (with_unfolding_all refine' For_invVF lF' ?k1 ?k2 ?_; (case k1 => exact rfl); (case k2 => exact rfl); k_whole)))

theorem walkL : PySem.Challenge.rw_on0087_01.Holds := hd (by
  k_go0
  (all_goals try k_fold)
  repeat' ((fail_if_success (with_reducible show wpAny _ _ (call (Value.ref 77) _) _ _ _)); (first | (k_unfold; (try dsimp only)) | (k_end; wrow_close) | walk1 | (dsimp only; walk1) | (leave1; try dsimp only)))
  rename IntsAre _ (List.take 40 _) => hIc
  have hn1 := take1_of hIc
  have hn2 := take2_of hIc
  repeat' ((fail_if_success (with_reducible show wpAny _ _ (pyIter (Value.ref _)) _ _ _)); (first | (k_unfold; (try dsimp only)) | (k_end; wrow_close) | walk1 | (dsimp only; walk1) | (leave1; try dsimp only)))
  rename Fr _ _ _ _ => F0
  rename News _ _ _ _ => N0
  rename IsRange _ _ _ _ _ _ _ _ => R0
  refine turns_loop rfl F0 N0 R0 (by omega) (by omega) rfl (by k_mem) (by k_mem) (by assumption) (by assumption) (by assumption) (by omega) ?_ ?_
  · intro i t a ta b tb k u h tk I oI hi h1 h2 h3 h4 d1 d2 F1 N1
    (try dsimp only)
    (try k_fold)
    repeat' ((fail_if_success (with_reducible show wpAny _ _ (pyIter (Value.ref _)) _ _ _)); (first | (k_unfold; (try dsimp only)) | (k_end; wrow_close) | walk1 | (dsimp only; walk1) | (leave1; try dsimp only)))
    all_goals (
      rename Fr _ _ _ _ => F3
      rename News _ _ _ _ => N3
      rename IsRange _ _ _ _ _ _ _ _ => R3
      refine letters_loop (I := I) (oI := oI) (i := i) rfl F3 N3 R3 (by omega) (by omega) rfl rfl rfl rfl (by k_mem) (by k_mem) (by k_mem) (by k_mem) (by assumption) (by assumption) (by assumption) (by omega) ?_ ?_
      · intro j t2 vs k2 a2 ta2 b2 tb2 n2 ls tl u2 h2 tk2 I2 oI2 hj e1 e2 e3 e4 hvl hvs hok f1 f2 f3 f4 i1 i2 i3 i4 i5 F4 N4
        (try dsimp only)
        (try k_fold)
        k_steps
        · exact end_sym (by k_asm) (by k_asm) (item_syms (by assumption) (by assumption)) hvs hok hvl (by assumption) (by assumption) (by assumption) (by omega) f1 f2 f3 f4 i1 i2 i3 i4 i5 (by intro p hp; simp only [List.mem_cons, List.not_mem_nil, or_false] at hp; rcases hp with rfl | rfl | rfl | rfl <;> rfl)
        · exact end_edge (by k_asm) (by k_asm) (item_levs (by assumption) (by assumption)) (item_levs (by assumption) (by assumption)) (by assumption) hvs hok hvl (by assumption) (by assumption) (by assumption) (by omega) f1 f2 f3 f4 i1 i2 i3 i4 i5 (by intro p hp; simp only [List.mem_cons, List.not_mem_nil, or_false] at hp; rcases hp with rfl | rfl | rfl | rfl <;> rfl)
      · intro vs k2 a2 ta2 b2 tb2 n2 ls tl u2 h2 tk2 e1 e2 e3 e4 hvl hvs hok f1 f2 f3 f4 F4 N4
        (try dsimp only)
        (try k_fold)
        k_steps
        exact end_turn (by k_asm) (by k_asm) (by assumption) (by assumption) (by assumption) (by omega) d1 (by intro p hp; rw [List.mem_singleton.mp hp]; exact rfl))
  · intro a ta b tb k u h tk F1 N1
    (try dsimp only)
    (try k_fold)
    repeat' ((fail_if_success (with_reducible show wpAny _ _ (pyIter (Value.ref _)) _ _ _)); (first | (k_unfold; (try dsimp only)) | (k_end; wrow_close) | walk1 | (dsimp only; walk1) | (leave1; try dsimp only)))
    rename Fr _ _ _ _ => F5
    rename News _ _ _ _ => N5
    refine loopL (x := Str.ofString "pair") (fun _ : Unit => []) (fun _ => []) (fun _ _ => True) [_] () rfl F5 N5 (.head _) (by intro p hp; rw [List.mem_singleton.mp hp]; k_mem) (by intro p hp; exact nomatch hp) trivial ?_ ?_
    · intro i v d u2 h2 tk2 I oI hvi hI _ F6 N6
      have hS := strs_get (xs := pairsL) (by repeat constructor) hvi
      obtain ⟨x, t2, e2, hx⟩ := hS
      subst e2
      have hlen := pairs_len x hx
      have hpair := pairs_ok hx
      (try dsimp only)
      (try k_fold)
      simp only [List.nil_append] at N6
      k_steps
      exact EndS.mk () (by k_asm) (news_tail (news_tail (by k_asm))) (fun _ hp => (nomatch hp)) (fun _ hp => (nomatch hp)) trivial
    · intro d u2 h2 tk2 _ F6 N6
      (try dsimp only)
      (try k_fold)
      k_steps)
end
end Mine

set_option maxRecDepth 100000 in
set_option maxHeartbeats 8000000 in
theorem PySem.Challenge.cw_on0087_01_holds : PySem.Challenge.rw_on0087_01.Holds := by
  exact Mine.walkL
