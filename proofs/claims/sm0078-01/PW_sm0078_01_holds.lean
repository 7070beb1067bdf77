import PyProof.Rows.All
import Wide.All
import OpenK.AllK
import Wide.FinOn
import PySem.Challenge.RW_sm0078_01
open PySem PySem.W PyProof.Rows PySem.Calls
set_option Elab.async false
set_option maxRecDepth 100000
set_option compiler.extract_closed false
set_option genInjectivity false
set_option genSizeOfSpec false
namespace Mine
local macro_rules | `(tactic| walk_at $s:str) => do let t := Lean.Syntax.mkStrLit ("~" ++ s.getString); `(tactic| k_extra $t)
local macro_rules | `(tactic| k_room) => `(tactic| k_extra "k_room")
local macro_rules | `(tactic| k_units) => `(tactic| k_extra "k_units")
local macro_rules | `(tactic| k_mem) => `(tactic| k_extra "k_mem")
local macro_rules | `(tactic| k_all) => `(tactic| k_extra "k_all")
local macro_rules | `(tactic| k_ne) => `(tactic| k_extra "k_ne")
local macro_rules | `(tactic| k_steps) => `(tactic| (try walk_at "my_fold"); (try walk_at "my_state"); repeat' (first | (k_unfold; (try walk_at "my_fold"); (try walk_at "my_state"); (try dsimp only); (try walk_at "my_fold")) | (k_end; wrow_close) | walk1 | (dsimp only; walk1) | (leave1; walk_say "STEP leave1"; try dsimp only) | fail "no step"))
-- the head's two constants alone: the written part of the heap (hd.heap_1) and the view (hd.view_1)
section
  local macro_rules | `(tactic| first | refine $_e:term | fail $_s:str) => `(tactic| assumption)
theorem hd (h : PySem.Challenge.rw_sm0078_01.row.Holds) : True := by
  have h2 : PySem.Challenge.rw_sm0078_01.row.Holds := by k_head
  trivial
end
-- the two constants are met once where no twin can be laid: so none is laid later
namespace pre
theorem tw2508255044705368994 : True := trivial
theorem tw357486453476387696 : True := trivial
end pre
set_option Elab.async true in
theorem pre : (true || (List.isEmpty [hd.view_1] && List.isEmpty [hd.heap_1])) = true := by
  first | k_qdec | exact rfl

abbrev Led := List (Addr × Obj)
/-- a contract of a call: `need` frames; from the ledger `news` to what `Post` tells -/
def Con (w : World) (need : Nat) (f : Addr) (vs : List Value) (news : Led) (Post : Led → Value → Prop) : Prop :=
  ∀ (loose : List Str) (mean : ExcName → Option Value) (mg mb : Str → Option Value) (dp un : Nat) (gd : Option (List Code)) (cn : Str) (cs : Scope) (a : Addr) (ccd : Value) (cl : List (Str × Addr)) (outer : List Env) (A₀ : Around) (base h₀ : Heap) (L : Addr) (m : Str → Option Value) (s : Shared)
    (Q E : Value → Shared → Prop),
    Below A₀ base outer h₀ → Fr h₀ L s.heap m → (hd.heap_1 w.params).In h₀ → News h₀ L s.heap news → Top hd.view_1 loose mean mg mb h₀ → cs.kind = .function → dp + need < recursionLimit → un + 8 * need < cLine →
    (∀ r news' h' tk', Fr h₀ L h' m → News h₀ L h' news' → Post news' r → Q r { s with heap := h', toks := tk' }) →
    wpAny (model PySem.Challenge.rw_sm0078_01.row.prog w) (ktrTop dp un gd cn cs L a ccd cl outer) (call (.ref f) vs) Q E s
theorem Con.useL {w : World} {need : Nat} {f : Addr} {vs : List Value} {news : Led} {Post : Led → Value → Prop}
    {loose : List Str} {mean : ExcName → Option Value} {mg mb : Str → Option Value} {dp un : Nat} {gd : Option (List Code)} {cn : Str} {cs : Scope} {a : Addr} {ccd : Value} {cl : List (Str × Addr)} {outer : List Env} {A₀ : Around} {base h₀ : Heap} {L : Addr} {m : Str → Option Value} {s : Shared}
    {Q E : Value → Shared → Prop} (B : Below A₀ base outer h₀) (F : Fr h₀ L s.heap m) (X : (hd.heap_1 w.params).In h₀) (N : News h₀ L s.heap news) (T : Top hd.view_1 loose mean mg mb h₀) (hk : cs.kind = .function) (C : Con w need f vs news Post) (hd : dp + need < recursionLimit) (hu : un + 8 * need < cLine)
    (h : ∀ r news' h' tk', Fr h₀ L h' m → News h₀ L h' news' → Post news' r → Q r { s with heap := h', toks := tk' }) :
    wpAny (model PySem.Challenge.rw_sm0078_01.row.prog w) (ktrTop dp un gd cn cs L a ccd cl outer) (call (.ref f) vs) Q E s := C _ _ _ _ _ _ _ _ _ _ _ _ _ _ _ _ _ _ _ _ _ B F X N T hk hd hu h
theorem ne_of_lts {d : Addr} {l : Led} (h : ∀ p ∈ l, p.1 < d) : ∀ p ∈ l, p.1 ≠ d := fun p hp => Nat.ne_of_lt (h p hp)
theorem ne_of_allLt {d : Addr} {l : Led} (h : AllLt d l) : ∀ p ∈ l, p.1 ≠ d := fun p hp => Nat.ne_of_lt (ktn_ltOf h p hp)
-- what comes out of a call, handed on without a case split upon the goal
section
variable {h₀ : Heap} {L : Addr} {m : Str → Option Value} {s : Shared} {Q : Value → Shared → Prop}
theorem post00 {R : Value} {D : Led} (h : ∀ h' tk', Fr h₀ L h' m → News h₀ L h' D → Q R { s with heap := h', toks := tk' }) : ∀ r news' h' tk', Fr h₀ L h' m → News h₀ L h' news' → (news' = D ∧ r = R) → Q r { s with heap := h', toks := tk' } := by
  rintro r news' h' tk' F N ⟨rfl, rfl⟩; exact h  h' tk' F N
theorem post10 {α0 : Type} {R : α0 → Value} {D : α0 → Led} (h : ∀ x0, ∀ h' tk', Fr h₀ L h' m → News h₀ L h' (D x0) → Q (R x0) { s with heap := h', toks := tk' }) : ∀ r news' h' tk', Fr h₀ L h' m → News h₀ L h' news' → (∃ x0, news' = D x0 ∧ r = R x0) → Q r { s with heap := h', toks := tk' } := by
  rintro r news' h' tk' F N ⟨x0, rfl, rfl⟩; exact h x0 h' tk' F N
theorem post20 {α0 : Type} {α1 : Type} {R : α0 → α1 → Value} {D : α0 → α1 → Led} (h : ∀ x0 x1, ∀ h' tk', Fr h₀ L h' m → News h₀ L h' (D x0 x1) → Q (R x0 x1) { s with heap := h', toks := tk' }) : ∀ r news' h' tk', Fr h₀ L h' m → News h₀ L h' news' → (∃ x0 x1, news' = D x0 x1 ∧ r = R x0 x1) → Q r { s with heap := h', toks := tk' } := by
  rintro r news' h' tk' F N ⟨x0, x1, rfl, rfl⟩; exact h x0 x1 h' tk' F N
theorem post21 {α0 : Type} {α1 : Type} {R : α0 → α1 → Value} {D : α0 → α1 → Led} {p0 : α0 → α1 → Prop} (h : ∀ x0 x1, p0 x0 x1 → ∀ h' tk', Fr h₀ L h' m → News h₀ L h' (D x0 x1) → Q (R x0 x1) { s with heap := h', toks := tk' }) : ∀ r news' h' tk', Fr h₀ L h' m → News h₀ L h' news' → (∃ x0 x1, p0 x0 x1 ∧ r = R x0 x1 ∧ news' = D x0 x1) → Q r { s with heap := h', toks := tk' } := by
  rintro r news' h' tk' F N ⟨x0, x1, f0, rfl, rfl⟩; exact h x0 x1 f0 h' tk' F N
theorem post22 {α0 : Type} {α1 : Type} {R : α0 → α1 → Value} {D : α0 → α1 → Led} {p0 : α0 → α1 → Prop} {p1 : α0 → α1 → Prop} (h : ∀ x0 x1, p0 x0 x1 → p1 x0 x1 → ∀ h' tk', Fr h₀ L h' m → News h₀ L h' (D x0 x1) → Q (R x0 x1) { s with heap := h', toks := tk' }) : ∀ r news' h' tk', Fr h₀ L h' m → News h₀ L h' news' → (∃ x0 x1, p0 x0 x1 ∧ p1 x0 x1 ∧ r = R x0 x1 ∧ news' = D x0 x1) → Q r { s with heap := h', toks := tk' } := by
  rintro r news' h' tk' F N ⟨x0, x1, f0, f1, rfl, rfl⟩; exact h x0 x1 f0 f1 h' tk' F N
theorem post31 {α0 : Type} {α1 : Type} {α2 : Type} {R : α0 → α1 → α2 → Value} {D : α0 → α1 → α2 → Led} {p0 : α0 → α1 → α2 → Prop} (h : ∀ x0 x1 x2, p0 x0 x1 x2 → ∀ h' tk', Fr h₀ L h' m → News h₀ L h' (D x0 x1 x2) → Q (R x0 x1 x2) { s with heap := h', toks := tk' }) : ∀ r news' h' tk', Fr h₀ L h' m → News h₀ L h' news' → (∃ x0 x1 x2, p0 x0 x1 x2 ∧ r = R x0 x1 x2 ∧ news' = D x0 x1 x2) → Q r { s with heap := h', toks := tk' } := by
  rintro r news' h' tk' F N ⟨x0, x1, x2, f0, rfl, rfl⟩; exact h x0 x1 x2 f0 h' tk' F N
theorem post32 {α0 : Type} {α1 : Type} {α2 : Type} {R : α0 → α1 → α2 → Value} {D : α0 → α1 → α2 → Led} {p0 : α0 → α1 → α2 → Prop} {p1 : α0 → α1 → α2 → Prop} (h : ∀ x0 x1 x2, p0 x0 x1 x2 → p1 x0 x1 x2 → ∀ h' tk', Fr h₀ L h' m → News h₀ L h' (D x0 x1 x2) → Q (R x0 x1 x2) { s with heap := h', toks := tk' }) : ∀ r news' h' tk', Fr h₀ L h' m → News h₀ L h' news' → (∃ x0 x1 x2, p0 x0 x1 x2 ∧ p1 x0 x1 x2 ∧ r = R x0 x1 x2 ∧ news' = D x0 x1 x2) → Q r { s with heap := h', toks := tk' } := by
  rintro r news' h' tk' F N ⟨x0, x1, x2, f0, f1, rfl, rfl⟩; exact h x0 x1 x2 f0 f1 h' tk' F N
theorem post33 {α0 : Type} {α1 : Type} {α2 : Type} {R : α0 → α1 → α2 → Value} {D : α0 → α1 → α2 → Led} {p0 : α0 → α1 → α2 → Prop} {p1 : α0 → α1 → α2 → Prop} {p2 : α0 → α1 → α2 → Prop} (h : ∀ x0 x1 x2, p0 x0 x1 x2 → p1 x0 x1 x2 → p2 x0 x1 x2 → ∀ h' tk', Fr h₀ L h' m → News h₀ L h' (D x0 x1 x2) → Q (R x0 x1 x2) { s with heap := h', toks := tk' }) : ∀ r news' h' tk', Fr h₀ L h' m → News h₀ L h' news' → (∃ x0 x1 x2, p0 x0 x1 x2 ∧ p1 x0 x1 x2 ∧ p2 x0 x1 x2 ∧ r = R x0 x1 x2 ∧ news' = D x0 x1 x2) → Q r { s with heap := h', toks := tk' } := by
  rintro r news' h' tk' F N ⟨x0, x1, x2, f0, f1, f2, rfl, rfl⟩; exact h x0 x1 x2 f0 f1 f2 h' tk' F N
theorem post41 {α0 : Type} {α1 : Type} {α2 : Type} {α3 : Type} {R : α0 → α1 → α2 → α3 → Value} {D : α0 → α1 → α2 → α3 → Led} {p0 : α0 → α1 → α2 → α3 → Prop} (h : ∀ x0 x1 x2 x3, p0 x0 x1 x2 x3 → ∀ h' tk', Fr h₀ L h' m → News h₀ L h' (D x0 x1 x2 x3) → Q (R x0 x1 x2 x3) { s with heap := h', toks := tk' }) : ∀ r news' h' tk', Fr h₀ L h' m → News h₀ L h' news' → (∃ x0 x1 x2 x3, p0 x0 x1 x2 x3 ∧ r = R x0 x1 x2 x3 ∧ news' = D x0 x1 x2 x3) → Q r { s with heap := h', toks := tk' } := by
  rintro r news' h' tk' F N ⟨x0, x1, x2, x3, f0, rfl, rfl⟩; exact h x0 x1 x2 x3 f0 h' tk' F N
end
/-- the frame's map as a name of its own -/
theorem my_op {h₀ h : Heap} {L : Addr} {M : Str → Option Value} {G : Prop} (F : Fr h₀ L h M) (k : ∀ M', Fr h₀ L h M' → (∀ x, M' x = M x) → G) : G := k M F fun _ => rfl
-- the frames' room, the units: without a search
theorem room1 {d n a b L : Nat} (h : d + n < L) (hle : Nat.ble (a + b) n = true) : d + a + b < L := by have := Nat.le_of_ble_eq_true hle; omega
theorem room2 {d n a c b L : Nat} (h : d + n < L) (hle : Nat.ble (a + c + b) n = true) : d + a + c + b < L := by have := Nat.le_of_ble_eq_true hle; omega
theorem room0 {d n b L : Nat} (h : d + n < L) (hle : Nat.ble b n = true) : d + b < L := by have := Nat.le_of_ble_eq_true hle; omega
theorem unit1 {d n a b L : Nat} (h : d + 8 * n < L) (hle : Nat.ble (a + 8 * b) (8 * n) = true) : d + a + 8 * b < L := by have := Nat.le_of_ble_eq_true hle; omega
theorem unit3 {d n a c b L : Nat} (h : d + 8 * n < L) (hle : Nat.ble (a + c + 8 * b) (8 * n) = true) : d + a + c + 8 * b < L := by have := Nat.le_of_ble_eq_true hle; omega
theorem unit4 {d n a c b L : Nat} (h : d + 8 * n < L) (hle : Nat.ble (a + c + b) (8 * n) = true) : d + a + c + b < L := by have := Nat.le_of_ble_eq_true hle; omega
theorem unit2 {d n a b L : Nat} (h : d + 8 * n < L) (hle : Nat.ble (a + b) (8 * n) = true) : d + a + b < L := by have := Nat.le_of_ble_eq_true hle; omega
theorem unit0 {d n a L : Nat} (h : d + 8 * n < L) (hle : Nat.ble a (8 * n) = true) : d + a < L := by have := Nat.le_of_ble_eq_true hle; omega

local macro_rules | `(tactic| ktf_call $c:term) => `(tactic| k_dflt (refine' Con.useL ?a ?b ?d ?e ?f ?g ?c ?h ?i ?_; (case a => k_asm); (case b => k_asm); (case d => k_asm); (case e => k_asm); (case f => k_asm); (case g => first | exact rfl | assumption); (case c => exact $c); (case h => ktr_room); (case i => ktr_units); k_extra "~use2"))
local macro_rules | `(tactic| ktr_room) => `(tactic| first | exact room1 (by assumption) (by exact rfl) | exact room0 (by assumption) (by exact rfl) | exact room2 (by assumption) (by exact rfl))
local macro_rules | `(tactic| ktr_units) => `(tactic| first | exact unit1 (by assumption) (by exact rfl) | exact unit2 (by assumption) (by exact rfl) | exact unit0 (by assumption) (by exact rfl) | exact unit3 (by assumption) (by exact rfl) | exact unit4 (by assumption) (by exact rfl))

-- LOOPS: a for over any iterator, an invariant over the turn's number, the frame's map and the ledger
section
variable {prog : Program} {w : World} {A : Around} {E : Value → Shared → Prop} {s : Shared} {h₀ : Heap} {L : Addr} {m : Str → Option Value} {env : Env} {news : Led}
abbrev Map := Str → Option Value
def TE (h₀ : Heap) (L I : Addr) (oI : Obj) (S : Led → Prop) (J : (Map → Led → Prop) → Prop) (s₁ s₂ : Shared) : Prop :=
  ∃ m' news' h' tk', s₂ = { s₁ with heap := h', toks := tk' } ∧ Fr h₀ L h' m' ∧ News h₀ L h' ((I, oI) :: news') ∧ (∀ p ∈ news', p.1 ≠ I) ∧ S news' ∧ ∀ K : Map → Led → Prop, J K → K m' news'
def TurnA (h₀ : Heap) (L I : Addr) (oI : Obj) (S : Led → Prop) (J : (Map → Led → Prop) → Prop) (s₁ : Shared) (Q : Flow → Shared → Prop) (f : Flow) (s₂ : Shared) : Prop :=
  match f with
  | .ret v => Q (.ret v) s₂
  | .brk => Q .next s₂
  | _ => TE h₀ L I oI S J s₁ s₂
inductive LoopAny (prog : Program) (w : World) (A : Around) (h₀ : Heap) (env : Env) (target : Expr) (body : List Stmt) (Q : Flow → Shared → Prop) (E : Value → Shared → Prop) : Value → Shared → Prop
  | mk (s₂ : Shared) (I : Addr) (fp : List Addr) (n : Nat) (P : Nat → Value → Prop) (St : Nat → Heap → Prop) (S : Led → Prop) (m : Map) (news : Led) (J : Nat → (Map → Led → Prop) → Prop)
    (W : Walks prog w A I fp [I] n P St) (hIo : ∀ i h, St i h → ∃ o, h.get? I = some o)
    (hSt : ∀ i h h' o nw, St i h → h.get? I = some o → h'.get? I = some o → (∀ b o, h₀.get? b = some o → h'.get? b = some o) → News h₀ env.locals h' nw → S nw → St i h')
    (hGo : ∀ i v s' Q', St i s'.heap → Q' () s' → wpAny (model prog w) A (letOwnedTupleGo target (.ref I) v) Q' E s')
    (hst : St 0 s₂.heap) (F : Fr h₀ env.locals s₂.heap m) (N : News h₀ env.locals s₂.heap news) (hLI : env.locals ≠ I) (hI0 : h₀.get? I = none) (off : ∀ p ∈ news, p.1 ≠ I) (hS : S news) (hJ : ∀ K : Map → Led → Prop, J 0 K → K m news)
    (turn : ∀ i v, i < n → P i v → J i fun m₁ news₁ => ∀ oI h tk, S news₁ → (∀ p ∈ news₁, p.1 ≠ I) → Fr h₀ env.locals h m₁ → News h₀ env.locals h ((I, oI) :: news₁) →
      wpAny (model prog w) A (assign target env v) (fun _ s' => wpAny (model prog w) A (execs body env) (TurnA h₀ env.locals I oI S (J (i + 1)) s₂ Q) E s') E { s₂ with heap := h, toks := tk })
    (done : J n fun m₁ news₁ => ∀ h tk, Fr h₀ env.locals h m₁ → News h₀ env.locals h news₁ → Q .next { s₂ with heap := h, toks := tk }) : LoopAny prog w A h₀ env target body Q E (.ref I) s₂
/-- between two turns -/
inductive Mid (h₀ : Heap) (L I : Addr) (S : Led → Prop) (St : Nat → Heap → Prop) (J : Nat → (Map → Led → Prop) → Prop) (n : Nat) (s₂ : Shared) : Nat → Shared → Prop
  | mk (i : Nat) (h' : Heap) (tk : Nat) (m' : Map) (news' : Led) (hst : St i h') (F : Fr h₀ L h' m') (N : News h₀ L h' news') (off : ∀ p ∈ news', p.1 ≠ I) (hS : S news') (hJ : ∀ K : Map → Led → Prop, J i K → K m' news') (hi : i ≤ n) :
    Mid h₀ L I S St J n s₂ (n + 1 - i) { s₂ with heap := h', toks := tk }
theorem for_any {target : Expr} {body : List Stmt} {Q : Flow → Shared → Prop} {iter : Expr} {pos : Pos} (_F : Fr h₀ env.locals s.heap m)
    (h : wpAny (model prog w) A (eval iter env) (fun xv s₁ => wpAny (model prog w) A (pyIter xv) (fun it s₂ => LoopAny prog w A h₀ env target body Q E it s₂) E s₁) E s)
    (hs : ∀ x, foldedSetIterable iter env x = pure x := by intro _; rfl)
    (hE : PassesOwn (model prog w) A env E := by passes_own) :
    wpAny (model prog w) A (exec (.For target iter body [] pos) env) Q E s := by
  refine wpAny_For (wpAny_mono h (fun xv s₁ h₁ => wpAny_mono h₁ (fun it s₂ h₂ => ?_) fun _ _ e => e) fun _ _ e => e) hs
  cases h₂ with
  | mk _ I fp n P St S m news J W hIo hSt hGo hst F N hLI hI0 off hS hJ turn done =>
  refine codeAny_forLoop_any (Mid h₀ env.locals I S St J n s₂) ?_ (n + 1) (Mid.mk 0 s₂.heap s₂.toks m news hst F N off hS hJ (Nat.zero_le _))
  intro k s' hM
  cases hM with
  | mk i h' tk m' news' hst' F' N' off' hS' hJ' hi =>
  by_cases hlt : i < n
  · refine W.item i _ _ _ hlt hst' fun v h₁ tk₁ hP hst₁ hk₁ => ?_
    have F₁ : Fr h₀ env.locals h₁ m' := ⟨F'.ns.at' fun o e => hk₁ _ o (by simpa using hLI) e, fun b o e => hk₁ b o (fun hb => by rw [List.mem_singleton.mp hb, hI0] at e; cases e) (F'.keep b o e), F'.above⟩
    refine (hIo _ _ hst₁).elim fun oI hoI => ?_
    have N₂ : News h₀ env.locals h₁ ((I, oI) :: news') := List.forall_mem_cons.mpr ⟨⟨hoI, Ne.symm hLI, hI0⟩, fun p hp => ⟨hk₁ _ _ (by simpa using off' p hp) (N' p hp).1, (N' p hp).2⟩⟩
    refine wpAny_passesOwn hE (hGo _ v _ _ hst₁ ?_)
    refine wpAny_passesOwn hE (wpAny_mono (hJ' _ (turn i v hlt hP) oI h₁ tk₁ hS' off' F₁ N₂) (fun _ s₃ h₃ => wpAny_passesOwn hE (wpAny_mono h₃ (fun f s₄ h₄ => ?_) fun _ _ e => e)) fun _ _ e => e)
    have fin : TE h₀ env.locals I oI S (J (i + 1)) s₂ s₄ → ∃ mm, mm < n + 1 - i ∧ Mid h₀ env.locals I S St J n s₂ mm s₄ := by
      rintro ⟨m₂, news₂, h₂, tk₂, rfl, F₂, N₂, off₂, hS₂, hJ₂⟩
      exact ⟨n + 1 - (i + 1), by omega, .mk (i + 1) h₂ tk₂ m₂ news₂ (hSt _ _ _ _ _ hst₁ hoI (N₂ _ List.mem_cons_self).1 F₂.keep (fun p hp => N₂ p (List.mem_cons_of_mem _ hp)) hS₂) F₂ (fun p hp => N₂ p (List.mem_cons_of_mem _ hp)) off₂ hS₂ hJ₂ hlt⟩
    cases f with
    | ret v => exact h₄
    | brk => exact h₄
    | cont => exact fin h₄
    | next => exact fin h₄
  · have hin : i = n := by omega
    subst hin
    refine W.done _ _ _ hst' fun h₁ tk₁ hk₁ => wpAny_execs_nil ?_
    exact hJ' _ done h₁ tk₁ ⟨F'.ns.at' fun o e => hk₁ _ o (by simpa using hLI) e, fun b o e => hk₁ b o (fun hb => by rw [List.mem_singleton.mp hb, hI0] at e; cases e) (F'.keep b o e), F'.above⟩ fun p hp => ⟨hk₁ _ _ (by simpa using off' p hp) (N' p hp).1, (N' p hp).2⟩

theorem go_name {x : Str} {px : Pos} {it v : Value} {Q : Unit → Shared → Prop} (h : Q () s) : wpAny (model prog w) A (letOwnedTupleGo (.Name x px) it v) Q E s := wpAny_pure h
theorem go_tuple {elts : List Expr} {k : Nat} {pos : Pos} {I l : Addr} {i : Nat} {v : Value} {Q : Unit → Shared → Prop} (hit : s.heap.IsListIter I l i) (h : Q () s) : wpAny (model prog w) A (letOwnedTupleGo (.Tuple elts k pos) (.ref I) v) Q E s := by
  cases v with
  | ref T => exact wpAny_letOwnedTupleGo_listiter hit h
  | _ => exact wpAny_pure h
/-- a target of a for over a list -/
def ListTarget : Expr → Prop
  | .Name .. => True
  | .Tuple .. => True
  | _ => False
theorem go_list {target : Expr} (ht : ListTarget target) {I l : Addr} {i : Nat} {v : Value} {Q : Unit → Shared → Prop} (hit : s.heap.IsListIter I l i) (h : Q () s) : wpAny (model prog w) A (letOwnedTupleGo target (.ref I) v) Q E s := by
  cases target <;> first | exact ht.elim | exact go_name h | exact go_tuple hit h
def NameTarget : Expr → Prop
  | .Name .. => True
  | _ => False
theorem go_nameT {target : Expr} (ht : NameTarget target) {it v : Value} {Q : Unit → Shared → Prop} (h : Q () s) : wpAny (model prog w) A (letOwnedTupleGo target it v) Q E s := by
  cases target <;> first | exact ht.elim | exact go_name h
open LCg in
theorem iter_list {ax : Addr} {its : Array Value} {target : Expr} {body : List Stmt} {Q : Flow → Shared → Prop} (J : Map → Led → Nat → (Map → Led → Prop) → Prop)
    (hh : A.handled = none) (F : Fr h₀ env.locals s.heap m) (N : News h₀ env.locals s.heap news) (S : SrcAt h₀ ax its news) (hJ : ∀ K : Map → Led → Prop, J m news 0 K → K m news)
    (turn : ∀ I i v, its[i]? = some v → J m news i fun m₁ news₁ => ∀ oI h tk, SrcAt h₀ ax its news₁ → (∀ p ∈ news₁, p.1 ≠ I) → Fr h₀ env.locals h m₁ → News h₀ env.locals h ((I, oI) :: news₁) →
      wpAny (model prog w) A (assign target env v) (fun _ s' => wpAny (model prog w) A (execs body env) (TurnA h₀ env.locals I oI (SrcAt h₀ ax its) (J m news (i + 1)) { s with heap := h, toks := tk } Q) E s') E { s with heap := h, toks := tk })
    (done : J m news its.size fun m₁ news₁ => ∀ h tk, Fr h₀ env.locals h m₁ → News h₀ env.locals h news₁ → Q .next { s with heap := h, toks := tk })
    (ht : ListTarget target := by exact trivial) :
    wpAny (model prog w) A (pyIter (.ref ax)) (fun it s₂ => LoopAny prog w A h₀ env target body Q E it s₂) E s := by
  have hl := S.list F.keep N
  have hlt : ax < s.heap.objs.size := by obtain ⟨_, e, _⟩ := hl; exact Heap.lt_size e
  refine wpAny_pyIter_list hl ?_
  have up : ∀ b o, s.heap.get? b = some o → (s.heap.push { cls := .type "list_iterator", data := .fields #[.ref ax, .int 0 0] }).get? b = some o := fun b o e => Heap.get?_push_of_some _ e
  exact .mk _ _ _ its.size _ _ (SrcAt h₀ ax its) m news (J m news) (Walks.list hh s.heap.objs.size ax (Nat.ne_of_lt hlt) its) (fun i h st => by obtain ⟨o, e, _⟩ := st.1; exact ⟨o, e⟩) list_st (fun _ _ _ _ st q => go_list ht st.1 q)
    ⟨⟨_, Heap.get?_push_size _ rfl, rfl, rfl⟩, hl.push _⟩ (F.keeps up) (N.grown up) (Nat.ne_of_lt F.ns.lt) (next_is_new F) (fun p hp => Nat.ne_of_lt (Heap.lt_size (N p hp).1)) S hJ
    (fun i v _ hP => turn _ i v hP) done
theorem iter_str {x : Str} {t : Tok} {target : Expr} {body : List Stmt} {Q : Flow → Shared → Prop} (J : Map → Led → Nat → (Map → Led → Prop) → Prop)
    (ha : x.cps.all (· < 128) = true) (hh : A.handled = none) (F : Fr h₀ env.locals s.heap m) (N : News h₀ env.locals s.heap news) (hJ : ∀ K : Map → Led → Prop, J m news 0 K → K m news)
    (turn : ∀ I i c u, x.cps[i]? = some c → J m news i fun m₁ news₁ => ∀ oI h tk, True → (∀ p ∈ news₁, p.1 ≠ I) → Fr h₀ env.locals h m₁ → News h₀ env.locals h ((I, oI) :: news₁) →
      wpAny (model prog w) A (assign target env (.str ⟨#[c]⟩ u)) (fun _ s' => wpAny (model prog w) A (execs body env) (TurnA h₀ env.locals I oI (fun _ => True) (J m news (i + 1)) { s with heap := h, toks := tk } Q) E s') E { s with heap := h, toks := tk })
    (done : J m news x.cps.size fun m₁ news₁ => ∀ h tk, Fr h₀ env.locals h m₁ → News h₀ env.locals h news₁ → Q .next { s with heap := h, toks := tk })
    (ht : NameTarget target := by exact trivial) :
    wpAny (model prog w) A (pyIter (.str x t)) (fun it s₂ => LoopAny prog w A h₀ env target body Q E it s₂) E s := by
  refine wpAny_pyIter_ascii ha ?_
  have up : ∀ b o, s.heap.get? b = some o → (s.heap.push { cls := .type "str_ascii_iterator", data := .fields #[.str x t, .int 0 0] }).get? b = some o := fun b o e => Heap.get?_push_of_some _ e
  refine .mk _ _ _ x.cps.size _ _ (fun _ => True) m news (J m news) (Walks.strAscii hh s.heap.objs.size x t) (fun i h st => by obtain ⟨o, e, _⟩ := st; exact ⟨o, e⟩) (fun i h h' o nw st e e' _ _ _ => by obtain ⟨o', q, r⟩ := st; rw [e] at q; cases q; exact ⟨o, e', r⟩) (fun _ _ _ _ _ q => go_nameT ht q)
    ⟨_, Heap.get?_push_size _ rfl, rfl, rfl⟩ (F.keeps up) (N.grown up) (Nat.ne_of_lt F.ns.lt) (next_is_new F) (fun p hp => Nat.ne_of_lt (Heap.lt_size (N p hp).1)) trivial hJ ?_ done
  rintro i v _ ⟨c, u, hc, rfl⟩
  exact turn _ i c u hc
theorem iter_range {r : Addr} {a b : Int} {t u v : Tok} {n : Nat} {target : Expr} {body : List Stmt} {Q : Flow → Shared → Prop} (J : Map → Led → Nat → (Map → Led → Prop) → Prop)
    (hh : A.handled = none) (hr : IsRange s.heap r a b 1 t u v) (hsm : Builtin.Range.small a b 1 = true) (hn : Builtin.Range.rangeSize a b 1 = ((n : Nat) : Int)) (F : Fr h₀ env.locals s.heap m) (N : News h₀ env.locals s.heap news) (hJ : ∀ K : Map → Led → Prop, J m news 0 K → K m news)
    (turn : ∀ I i t, i < n → J m news i fun m₁ news₁ => ∀ oI h tk, True → (∀ p ∈ news₁, p.1 ≠ I) → Fr h₀ env.locals h m₁ → News h₀ env.locals h ((I, oI) :: news₁) →
      wpAny (model prog w) A (assign target env (.int (a + (i : Int)) t)) (fun _ s' => wpAny (model prog w) A (execs body env) (TurnA h₀ env.locals I oI (fun _ => True) (J m news (i + 1)) { s with heap := h, toks := tk } Q) E s') E { s with heap := h, toks := tk })
    (done : J m news n fun m₁ news₁ => ∀ h tk, Fr h₀ env.locals h m₁ → News h₀ env.locals h news₁ → Q .next { s with heap := h, toks := tk })
    (ht : NameTarget target := by exact trivial) :
    wpAny (model prog w) A (pyIter (.ref r)) (fun it s₂ => LoopAny prog w A h₀ env target body Q E it s₂) E s := by
  refine wpAny_pyIter_range hr hsm ?_
  refine .mk _ _ _ n _ _ (fun _ => True) m news (J m news) (LCg.range_walks hh a n) (fun i h st => ⟨_, st⟩) LCg.range_st (fun _ _ _ _ _ q => go_nameT ht q)
    (by show IsRangeIter _ _ _ _ _; rw [hn]; simpa using Heap.get?_push_size _ rfl) (F.keeps fun _ _ e => Heap.get?_push_of_some _ e) (N.grown fun _ _ e => Heap.get?_push_of_some _ e) (Nat.ne_of_lt F.ns.lt) (next_is_new F) (fun p hp => Nat.ne_of_lt (Heap.lt_size (N p hp).1)) trivial hJ ?_ done
  rintro i v hi ⟨t, rfl⟩
  exact turn _ i t hi
theorem TE.intro {I : Addr} {oI : Obj} {S : Led → Prop} {J : (Map → Led → Prop) → Prop} {m' : Map} {h' : Heap} {tk tk' : Nat} {all news' : Led} (F : Fr h₀ L h' m') (N : News h₀ L h' all)
    (sub : ∀ p ∈ (I, oI) :: news', p ∈ all) (off : ∀ p ∈ news', p.1 ≠ I) (hS : S news') (hJ : ∀ K : Map → Led → Prop, J K → K m' news') {hp : Heap} : TE h₀ L I oI S J { s with heap := hp, toks := tk } { s with heap := h', toks := tk' } :=
  ⟨m', news', h', tk', rfl, F, fun p hp => N p (sub p hp), off, hS, hJ⟩
end

-- COMPREHENSIONS: any source, a target, no test or one, an invariant over the turn's number, the items made and the ledger
section
open LCg
variable {prog : Program} {w : World} {A : Around} {E : Value → Shared → Prop} {s : Shared} {h₀ : Heap} {L : Addr} {m : Str → Option Value} {env : Env} {news : Led}
/-- the turn's own tree: the test (if there is one), the element -/
def TestElt (prog : Program) (w : World) (A : Around) (h₀ : Heap) (L : Addr) (m : Str → Option Value) (cenv : Env) (elt : Expr) (s₂ : Shared) (I : Addr) (oI : Obj) (C : Addr) (oC : Obj) (D : Addr) (ys : List Value) (S : Led → Prop) (J : (List Value → Led → Prop) → Prop) (E' : Value → Shared → Prop) (s₁ : Shared) : List Expr → Prop
  | [] => wpAny (model prog w) A (eval elt cenv) (CompEnd h₀ L m s₂ I oI C oC D (lst ys) S (fun y news' => ∀ K : List Value → Led → Prop, J K → K (ys ++ [y]) news')) E' s₁
  | [ct] => wpAny (model prog w) A (isTrue ct cenv (eval ct cenv)) (fun ok s' => if ok = true then
        wpAny (model prog w) A (eval elt cenv) (CompEnd h₀ L m s₂ I oI C oC D (lst ys) S (fun y news' => ∀ K : List Value → Led → Prop, J K → K (ys ++ [y]) news')) E' s'
        else CompEnd h₀ L m s₂ I oI C oC D (lst ys) S (fun _ news' => ∀ K : List Value → Led → Prop, J K → K ys news') Value.none s') E' s₁
  | _ => False
inductive CompAny (prog : Program) (w : World) (A : Around) (h₀ : Heap) (L : Addr) (m : Str → Option Value) (env : Env) (elt target : Expr) (ifs : List Expr) (scope : Scope) (cl : List (Str × Addr)) (Fin : Shared → List Value → Led → Prop) : Value → Shared → Prop
  | mk (s₂ : Shared) (I : Addr) (fp : List Addr) (n : Nat) (P : Nat → Value → Prop) (Bnd : Nat → Value → (Str → Option Value) → Prop) (St : Nat → Heap → Prop) (S : Led → Prop) (news : Led) (J : Nat → (List Value → Led → Prop) → Prop)
    (W : Walks prog w A I fp [I] n P St) (hsz : n ≤ sizeLine) (hIo : ∀ i h, St i h → ∃ o, h.get? I = some o)
    (hSt : ∀ i h h' o nw, St i h → h.get? I = some o → h'.get? I = some o → (∀ b o, h₀.get? b = some o → h'.get? b = some o) → News h₀ L h' nw → S nw → St i h')
    (hGo : ∀ i v s' Q' E', St i s'.heap → Q' () s' → wpAny (model prog w) A (letOwnedTupleGo target (.ref I) v) Q' E' s') (hfp : ∀ b ∈ fp, b < s₂.heap.objs.size)
    (hAs : ∀ i v news₁ C m' h tk Q' E', P i v → S news₁ → (∀ b o, h₀.get? b = some o → h.get? b = some o) → News h₀ L h news₁ → h.Ns C m' → C ∉ news₁.map (·.1) →
      (∀ h' tk' m₂, h'.Ns C m₂ → Bnd i v m₂ → (∀ c o, c ≠ C → h.get? c = some o → h'.get? c = some o) → Q' () { s₂ with heap := h', toks := tk' }) → wpAny (model prog w) A (assign target (compEnvC scope cl C env) v) Q' E' { s₂ with heap := h, toks := tk })
    (hst : St 0 s₂.heap) (F : Fr h₀ L s₂.heap m) (N : News h₀ L s₂.heap news) (hIL : L ≠ I) (hI₀ : h₀.get? I = none) (off : ∀ p ∈ news, p.1 ≠ I) (hS : S news) (hJ : ∀ K : List Value → Led → Prop, J 0 K → K [] news)
    (turn : ∀ i v, i < n → P i v → J i fun ys news₁ => ∀ oI C oC D h tk m₂ E', S news₁ → NsObj oC m₂ → Bnd i v m₂ → Fr h₀ L h m → News h₀ L h ((I, oI) :: (C, oC) :: (D, lst ys) :: news₁) → Off3 I C D news₁ → ((@Ne Nat I C) ∧ (@Ne Nat I D) ∧ (@Ne Nat C D)) →
      TestElt prog w A h₀ L m (compEnvC scope cl C env) elt { s₂ with heap := h, toks := tk } I oI C oC D ys S (J (i + 1)) E' { s₂ with heap := h, toks := tk } ifs)
    (fin : J n fun ys news' => Fin s₂ ys news') : CompAny prog w A h₀ L m env elt target ifs scope cl Fin (.ref I) s₂
/-- between two turns -/
inductive MidC (h₀ : Heap) (L I C D : Addr) (m : Str → Option Value) (S : Led → Prop) (St : Nat → Heap → Prop) (J : Nat → (List Value → Led → Prop) → Prop) (n : Nat) (s₂ : Shared) : Nat → Shared → Prop
  | mk (i : Nat) (h' : Heap) (tk : Nat) (ys : List Value) (m' : Str → Option Value) (news' : Led) (hi : i ≤ n) (hyl : ys.length ≤ i) (hst : St i h') (F : Fr h₀ L h' m) (hn : h'.Ns C m') (N : News h₀ L h' ((D, lst ys) :: news')) (off : Off3 I C D news') (hS : S news') (hJ : ∀ K : List Value → Led → Prop, J i K → K ys news') :
    MidC h₀ L I C D m S St J n s₂ (n + 1 - i) { s₂ with heap := h', toks := tk }

theorem comp_block {elt target iter : Expr} {ifs : List Expr} {scope : Scope} {cl : List (Str × Addr)} {pos : Pos} {s₂ : Shared} {it : Value} {Fin : Shared → List Value → Led → Prop} {RR : Value → Addr → Result → Shared → Prop}
    (hcell : ∀ y ∈ scope.names, y.2 ≠ .cell) (hkind : scope.kind = .function) (hif : ifs.length ≤ 1)
    (K : CompAny prog w A h₀ L m env elt target ifs scope cl Fin it s₂)
    (hRR : ∀ D C h tk m' ys news', Fr h₀ L h m → News h₀ L h ((D, lst ys) :: news') → Off1 D news' → h.Ns C m' → h₀.get? C = none → h₀.get? D = none → C ≠ L → D ≠ L → C ≠ D → (∀ p ∈ news', p.1 ≠ C) → Fin s₂ ys news' → RR (.ref D) C (.ok .next) { s₂ with heap := h, toks := tk }) :
    wpAny (model prog w) A (newList []) (fun acc s₃ => wpAny (model prog w) A (newFunctionEnv scope env.globals cl [] env.qual none .none (some env)) (fun cenv s₄ =>
      codeAny (model prog w) A (.compStart (.ListComp elt [⟨target, iter, ifs, 0⟩] scope pos) 0 it acc { cenv with scope := relabel scope env }) (RR acc cenv.locals) s₄) E s₃) E s₂ := by
  cases K with
  | mk _ I fp n P Bnd St S news J W hsz hIo hSt hGo hfp hAs hst F N hIL hI₀ off hS hJ turn fin =>
  refine wpAny_newObj_type (wpAny_newFunctionEnv hcell (by intro y hy; simp at hy) (fun h₁ hns₁ hsb₁ => ?_) hkind)
  dsimp only at hns₁ hsb₁ ⊢
  generalize hH2 : s₂.heap.push { cls := .type "list", dict := none, data := .seq ([] : List Value).toArray } = H2 at hns₁ hsb₁ ⊢
  have hC : H2.objs.size = s₂.heap.objs.size + 1 := by rw [← hH2, Heap.size_push]
  have hDC : s₂.heap.objs.size ≠ H2.objs.size := by rw [hC]; exact Nat.ne_of_lt (Nat.lt_succ_self _)
  have below : ∀ b, b < s₂.heap.objs.size → b ≠ H2.objs.size ∧ b ≠ s₂.heap.objs.size := fun b hb => ⟨by rw [hC]; exact Nat.ne_of_lt (Nat.lt_succ_of_lt hb), Nat.ne_of_lt hb⟩
  have hDf : s₂.heap.objs.size ∉ fp := fun hm => Nat.lt_irrefl _ (hfp _ hm)
  have hCf : H2.objs.size ∉ fp := fun hm => by have := hfp _ hm; rw [hC] at this; exact Nat.lt_irrefl _ (Nat.lt_of_succ_lt this)
  have hIf : I ∈ fp := W.sub I (List.mem_singleton.mpr rfl)
  have hIlt : I < s₂.heap.objs.size := hfp I hIf
  have old : ∀ b o, s₂.heap.get? b = some o → h₁.get? b = some o := fun b o e => hsb₁.extBut b o (below b (Heap.lt_size e)).1 (Heap.get?_push_of_some _ (hH2 ▸ Heap.get?_push_of_some _ e))
  have hacc : h₁.get? s₂.heap.objs.size = some (lst []) := hsb₁.extBut _ _ hDC (Heap.get?_push_of_some _ (hH2 ▸ Heap.get?_push_size _ rfl))
  have hst₁ : St 0 h₁ := W.frame _ _ _ hst fun b _ o e => old b o e
  have fresh : ∀ a, s₂.heap.objs.size ≤ a → s₂.heap.get? a = none := fun a ha => by
    cases e : s₂.heap.get? a with
    | none => rfl
    | some o' => exact absurd (Heap.lt_size e) (Nat.not_lt.mpr ha)
  have fresh₀ : ∀ a, s₂.heap.objs.size ≤ a → h₀.get? a = none := fun a ha => by
    cases e : h₀.get? a with
    | none => rfl
    | some o' => have := F.keep a o' e; rw [fresh a ha] at this; cases this
  have hD₀ : h₀.get? s₂.heap.objs.size = none := fresh₀ _ (Nat.le_refl _)
  have hC₀ : h₀.get? H2.objs.size = none := fresh₀ _ (by rw [hC]; exact Nat.le_succ _)
  have hLlt : L < s₂.heap.objs.size := F.ns.lt
  have hDL : s₂.heap.objs.size ≠ L := Ne.symm (below L hLlt).2
  have hCL : H2.objs.size ≠ L := Ne.symm (below L hLlt).1
  have hCI : I ≠ H2.objs.size := (below I hIlt).1
  have hDI : I ≠ s₂.heap.objs.size := (below I hIlt).2
  have off₀ : Off3 I H2.objs.size s₂.heap.objs.size news := Off3.of fun p hp => ⟨off p hp, (below _ (Heap.lt_size (N p hp).1)).1, (below _ (Heap.lt_size (N p hp).1)).2⟩
  have loop : ∀ s₃ : Shared, s₃ = { s₂ with heap := h₁, toks := s₂.toks + ([] : List (Str × Value)).length } →
      codeAny (model prog w) A (.compLoop (.ListComp elt [⟨target, iter, ifs, 0⟩] scope pos) 0 (.ref I) (.ref s₂.heap.objs.size) (compEnvC scope cl H2.objs.size env))
        (RR (.ref s₂.heap.objs.size) H2.objs.size) s₃ := by
    rintro s₃ rfl
    refine codeAny_loop rfl (MidC h₀ L I H2.objs.size s₂.heap.objs.size m S St J n s₂) ?_ (n + 1) (MidC.mk 0 h₁ _ [] _ news (Nat.zero_le _) (Nat.le_refl _) hst₁ (F.keeps old) hns₁ (List.forall_mem_cons.mpr ⟨⟨hacc, hDL, hD₀⟩, fun p hp => ⟨old _ _ (N p hp).1, (N p hp).2⟩⟩) off₀ hS hJ)
    · intro k s' hM
      cases hM with
      | mk i h' tk ys m' news' hi hyl hst' F' hn' N' off' hS' hJ' =>
      show wpAny _ A ((compTurn (.ListComp elt [⟨target, iter, ifs, 0⟩] scope pos) 0 (.ref I) (.ref s₂.heap.objs.size) (compEnvC scope cl H2.objs.size env)).onRaise (fun x => do noteFrame x (compEnvC scope cl H2.objs.size env); theTreesLotGoes x)) _ _ _
      refine wpAny_noted ?_
      rw [compTurn_list]
      refine wpAny_bind (wpAny_standAt (wpAny_bind ?_))
      by_cases hlt : i < n
      · refine W.item i _ _ _ hlt hst' fun v h₂ tk₂ hPv hst₂ hk₂ => ?_
        have off3 := off'.mem
        have N₂ : News h₀ L h₂ ((s₂.heap.objs.size, lst ys) :: news') := news_but N' hk₂ (List.forall_mem_cons.mpr ⟨Ne.symm hDI, fun p hp => (off3 p hp).1⟩)
        have F₂ : Fr h₀ L h₂ m := fr_but F' hk₂ hIL hI₀
        dsimp only
        refine wpAny_bind (hGo _ v _ _ _ hst₂ ?_)
        refine wpAny_bind (hAs i v news' H2.objs.size m' h₂ tk₂ _ _ hPv hS' F₂.keep (fun p hp => N₂ p (List.mem_cons_of_mem _ hp)) (hn'.at' fun o e => hk₂ _ o (by simpa using Ne.symm hCI) e) (fun hm => (List.mem_map.mp hm).elim fun p hp => (off3 p hp.1).2.1 hp.2) fun h₃ tk₃ m₂ hn₃ hB hs₃ => ?_)
        have hst₃ : St (i + 1) h₃ := W.frame _ _ _ hst₂ fun b hb o e => hs₃ b o (fun q => hCf (by have q' : b = H2.objs.size := q; rw [← q']; exact hb)) e
        refine (hIo _ _ hst₃).elim fun oI heI => (ns_obj hn₃).elim fun oC hoC' => ?_
        have heC := hoC'.1
        have hoC := hoC'.2
        have F₃ : Fr h₀ L h₃ m := ⟨F₂.ns.at' fun o e => hs₃ _ o (Ne.symm hCL) e, fun b o e => hs₃ b o (fun q => by rw [q, hC₀] at e; cases e) (F₂.keep b o e), F₂.above⟩
        have N₃ : News h₀ L h₃ ((I, oI) :: (H2.objs.size, oC) :: (s₂.heap.objs.size, lst ys) :: news') := List.forall_mem_cons.mpr ⟨⟨heI, Ne.symm hIL, hI₀⟩, List.forall_mem_cons.mpr ⟨⟨heC, hCL, hC₀⟩, List.forall_mem_cons.mpr
          ⟨⟨hs₃ _ _ hDC (N₂ _ List.mem_cons_self).1, (N₂ _ List.mem_cons_self).2⟩, fun p hp => ⟨hs₃ _ _ (off3 p hp).2.1 (N₂ p (List.mem_cons_of_mem _ hp)).1, (N₂ p (List.mem_cons_of_mem _ hp)).2⟩⟩⟩⟩
        have T := hJ' _ (turn i v hlt hPv) oI H2.objs.size oC s₂.heap.objs.size h₃ tk₃ m₂ (notedBy (model prog w) A (compEnvC scope cl H2.objs.size env) fun e s' => RR (.ref s₂.heap.objs.size) H2.objs.size (.error e) s') hS' hoC hB F₃ N₃ off' ⟨hCI, hDI, Ne.symm hDC⟩
        have fin1 : ∀ y s₄, CompEnd h₀ L m { s₂ with heap := h₃, toks := tk₃ } I oI H2.objs.size oC s₂.heap.objs.size (lst ys) S (fun y news' => ∀ K : List Value → Led → Prop, J (i + 1) K → K (ys ++ [y]) news') y s₄ →
            wpAny (model prog w) A (call (.builtin "list.append") [.ref s₂.heap.objs.size, y]) (fun _ s' => ∃ mm, mm < n + 1 - i ∧ MidC h₀ L I H2.objs.size s₂.heap.objs.size m S St J n s₂ mm s') (notedBy (model prog w) A (compEnvC scope cl H2.objs.size env) fun e s' => RR (.ref s₂.heap.objs.size) H2.objs.size (.error e) s') s₄ := by
          rintro y s₄ ⟨h₄, tk₄, news₄, rfl, F₄, N₄, off₄, hS₄, R₄⟩
          have zI := (N₄ (I, oI) List.mem_cons_self).1
          have zC := (N₄ (H2.objs.size, oC) (List.mem_cons_of_mem _ List.mem_cons_self)).1
          have zD := (N₄ (s₂.heap.objs.size, lst ys) (List.mem_cons_of_mem _ (List.mem_cons_of_mem _ List.mem_cons_self))).1
          have N₄' : News h₀ L h₄ news₄ := fun p hp => N₄ p (List.mem_cons_of_mem _ (List.mem_cons_of_mem _ (List.mem_cons_of_mem _ hp)))
          have hst₄ : St (i + 1) h₄ := hSt _ _ _ _ _ hst₃ heI zI F₄.keep N₄' hS₄
          have off4 := off₄.mem
          refine append_at (hsz := by show ys.toArray.size ≤ sizeLine; rw [List.size_toArray]; exact Nat.le_trans (Nat.le_trans hyl hi) hsz) zD fun h₅ hs₅ hD₅ => ?_
          exact ⟨n + 1 - (i + 1), by omega, .mk (i + 1) h₅ tk₄ (ys ++ [y]) _ news₄ hlt (by rw [List.length_append, List.length_singleton]; exact Nat.succ_le_succ hyl) (W.frame _ _ _ hst₄ fun b hb o e => hs₅.extBut b o (fun q => hDf (q ▸ hb)) e) (F₄.change hs₅ hDL hD₀)
            ((hoC.ns zC).sameBut hs₅ (Ne.symm hDC)) (List.forall_mem_cons.mpr ⟨⟨hD₅.trans (congrArg some (lst_snoc ys y)), hDL, hD₀⟩, fun p hp => ⟨hs₅.extBut _ _ (off4 p hp).2.2 (N₄' p hp).1, (N₄' p hp).2⟩⟩) off₄ hS₄ R₄⟩
        have fin0 : ∀ s₄, CompEnd h₀ L m { s₂ with heap := h₃, toks := tk₃ } I oI H2.objs.size oC s₂.heap.objs.size (lst ys) S (fun _ news' => ∀ K : List Value → Led → Prop, J (i + 1) K → K ys news') Value.none s₄ → ∃ mm, mm < n + 1 - i ∧ MidC h₀ L I H2.objs.size s₂.heap.objs.size m S St J n s₂ mm s₄ := by
          rintro s₄ ⟨h₅, tk₄, news₄, rfl, F₄, N₄, off₄, hS₄, R₄⟩
          have zI := (N₄ (I, oI) List.mem_cons_self).1
          have zC := (N₄ (H2.objs.size, oC) (List.mem_cons_of_mem _ List.mem_cons_self)).1
          have N₄' : News h₀ L h₅ news₄ := fun p hp => N₄ p (List.mem_cons_of_mem _ (List.mem_cons_of_mem _ (List.mem_cons_of_mem _ hp)))
          have hst₄ : St (i + 1) h₅ := hSt _ _ _ _ _ hst₃ heI zI F₄.keep N₄' hS₄
          exact ⟨n + 1 - (i + 1), by omega, .mk (i + 1) h₅ tk₄ ys _ news₄ hlt (Nat.le_succ_of_le hyl) hst₄ F₄ (hoC.ns zC) (List.forall_mem_cons.mpr ⟨N₄ _ (List.mem_cons_of_mem _ (List.mem_cons_of_mem _ List.mem_cons_self)), N₄'⟩) off₄ hS₄ R₄⟩
        match ifs, hif, T with
        | [], _, T =>
          refine wpAny_bind (wpAny_tests_nil ?_)
          exact wpAny_bind (wpAny_bind (wpAny_mono T (fun y s₄ h₄ => wpAny_bind (wpAny_mono (fin1 y s₄ h₄) (fun _ s₅ h₅ => wpAny_pure (wpAny_pure ⟨rfl, h₅⟩)) fun _ _ h' => h')) fun _ _ h' => h'))
        | [ct], _, T =>
          refine wpAny_bind (wpAny_tests_one (wpAny_mono T (fun ok s₄ h₄ => ?_) fun _ _ h' => h'))
          cases ok with
          | false => exact wpAny_pure ⟨rfl, fin0 s₄ (by simpa only [Bool.false_eq_true, if_false] using h₄)⟩
          | true => exact wpAny_bind (wpAny_bind (wpAny_mono (by simpa only [if_true] using h₄) (fun y s₅ h₅ => wpAny_bind (wpAny_mono (fin1 y s₅ h₅) (fun _ s₆ h₆ => wpAny_pure (wpAny_pure ⟨rfl, h₆⟩)) fun _ _ h' => h')) fun _ _ h' => h'))
      · obtain rfl : i = n := Nat.le_antisymm hi (Nat.not_lt.mp hlt)
        refine W.done _ _ _ hst' fun h₂ tk₂ hk₂ => ?_
        have off3 := off'.mem
        refine wpAny_pure ?_
        exact hRR _ _ h₂ tk₂ _ ys news' (fr_but F' hk₂ hIL hI₀) (news_but N' hk₂ (List.forall_mem_cons.mpr ⟨Ne.symm hDI, fun p hp => (off3 p hp).1⟩)) off'.one (hn'.at' fun o e => hk₂ _ o (by simpa using Ne.symm hCI) e) hC₀ hD₀ hCL hDL (Ne.symm hDC) (fun p hp => (off3 p hp).2.1) (hJ' _ fin)
  exact codeAny_compStart_list (loop _ rfl) (W.self 0 _ _ _ hst₁ (loop _ rfl))

def FinE' (h₀ : Heap) (L : Addr) (m : Str → Option Value) (Q : Value → Shared → Prop) (s : Shared) (ys : List Value) (news : Led) : Prop :=
  ∀ D h tk, Fr h₀ L h m → News h₀ L h ((D, lst ys) :: news) → Off1 D news → Q (.ref D) { s with heap := h, toks := tk }
theorem comp_any {elt target iter : Expr} {ifs : List Expr} {scope : Scope} {cl : List (Str × Addr)} {pos : Pos} {Q : Value → Shared → Prop} (_F₀ : Fr h₀ L s.heap m)
    (hclos : closureFor scope env = pure cl) (hcell : ∀ y ∈ scope.names, y.2 ≠ .cell) (hkind : scope.kind = .function)
    (hnames : ∀ y ∈ scope.names, y.2 = .local → scope.names.lookup y.1 = some .local) (hif : ifs.length ≤ 1)
    (h : wpAny (model prog w) A (eval iter env) (fun xv s₁ => wpAny (model prog w) A (pyIter xv) (fun it s₂ => CompAny prog w A h₀ L m env elt target ifs scope cl (FinE' h₀ L m Q) it s₂) E s₁) E s)
    (hs : ∀ x, foldedSetIterable iter env x = pure x := by intro _; rfl) :
    wpAny (model prog w) A (eval (.ListComp elt [⟨target, iter, ifs, 0⟩] scope pos) env) Q E s := by
  rw [eval_ListComp]
  refine wpAny_comprehension_free (use := none) rfl hs hclos hkind hnames (wpAny_mono h (fun xv s₁ h₁ => wpAny_mono h₁ (fun it s₂ h₂ => ?_) fun _ _ e => e) fun _ _ e => e)
  refine comp_block hcell hkind hif h₂ ?_
  intro D C h tk m' ys news' F' N' o1 hn hC₀ hD₀ hCL hDL hCD offC fin
  refine ⟨m', hn, fun h'' hs'' => fin D h'' tk (F'.change hs'' hCL hC₀) (fun p hp => ?_) o1⟩
  refine ⟨hs''.extBut _ _ ?_ (N' p hp).1, (N' p hp).2⟩
  rcases List.mem_cons.mp hp with rfl | hp
  · exact Ne.symm hCD
  · exact offC p hp
def FinA' (h₀ : Heap) (L : Addr) (m : Str → Option Value) (y : Str) (Q : Flow → Shared → Prop) (s : Shared) (ys : List Value) (news : Led) : Prop :=
  ∀ D h tk, Fr h₀ L h (fun z => if z = y then some (.ref D) else m z) → News h₀ L h ((D, lst ys) :: news) → Off1 D news → Q .next { s with heap := h, toks := tk }
theorem comp_assign {elt target iter : Expr} {ifs : List Expr} {y : Str} {py : Pos} {scope : Scope} {cl : List (Str × Addr)} {pos spos : Pos} {Q : Flow → Shared → Prop} (_F₀ : Fr h₀ L s.heap m) (hLe : env.locals = L)
    (hsw : swapsWith (.ListComp elt [⟨target, iter, ifs, 0⟩] scope pos) (some (.Name y py)) spos.line env = pure true)
    (hclos : closureFor scope env = pure cl) (hcell : ∀ z ∈ scope.names, z.2 ≠ .cell) (hkind : scope.kind = .function)
    (hnames : ∀ z ∈ scope.names, z.2 = .local → scope.names.lookup z.1 = some .local)
    (hy : env.kindOf y = some .local) (hp : (env.scope.kind == .class || (env.scope.kind == .module && env.locals != env.globals)) = false) (hif : ifs.length ≤ 1)
    (h : wpAny (model prog w) A (eval iter env) (fun xv s₁ => wpAny (model prog w) A (pyIter xv) (fun it s₂ => CompAny prog w A h₀ L m env elt target ifs scope cl (FinA' h₀ L m y Q) it s₂) E s₁) E s)
    (hs : ∀ x, foldedSetIterable iter env x = pure x := by intro _; rfl) :
    wpAny (model prog w) A (exec (.Assign [.Name y py] (.ListComp elt [⟨target, iter, ifs, 0⟩] scope pos) spos) env) Q E s := by
  subst hLe
  rw [exec_Assign_Name_used _ _ _ _ hsw]
  refine wpAny_bind (wpAny_standAt (wpAny_bind ?_))
  show wpAny _ A (do let _ ← comprehension (.ListComp elt [⟨target, iter, ifs, 0⟩] scope pos) scope env _ (newList []) false (eval iter env) (some (assign (.Name y py) env))) _ _ s
  refine wpAny_bind (wpAny_mono (wpAny_comprehension_free (use := some (assign (.Name y py) env)) (Q := fun _ s' => Q .next s') rfl hs hclos hkind hnames
    (wpAny_mono h (fun xv s₁ h₁ => wpAny_mono h₁ (fun it s₂ h₂ => ?_) fun _ _ e => e) fun _ _ e => e)) (fun _ s' hq => wpAny_pure (wpAny_pure hq)) fun _ _ e => e)
  refine comp_block hcell hkind hif h₂ ?_
  intro D C h' tk m' ys news' F' N' o1 hn hC₀ hD₀ hCL hDL hCD offC fin
  show wpAny _ A (assign (.Name y py) env (.ref D)) _ _ _
  refine wpAny_assign_Name (wpAny_storeName_local hy F'.ns (fun h₂ hn₂ hs₂ => ?_) hp)
  have hL₀ : h₀.get? env.locals = none := Heap.get?_none_of_le F'.above
  have F₂ : Fr h₀ env.locals h₂ (fun z => if z = y then some (.ref D) else m z) := ⟨hn₂, fun b o e => hs₂.extBut b o (fun q => by rw [q, hL₀] at e; cases e) (F'.keep b o e), F'.above⟩
  refine ⟨m', hn.sameBut hs₂ hCL, fun h'' hs'' => fin D h'' _ (F₂.change hs'' hCL hC₀) (fun p hp => ?_) o1⟩
  have z : h₂.get? p.1 = some p.2 := hs₂.extBut _ _ (N' p hp).2.1 (N' p hp).1
  refine ⟨hs''.extBut _ _ ?_ z, (N' p hp).2⟩
  rcases List.mem_cons.mp hp with rfl | hp
  · exact Ne.symm hCD
  · exact offC p hp

/-- a target's stores in the block's own names -/
def BndN (x : Str) (v : Value) (m₂ : Str → Option Value) : Prop := m₂ x = some v
/-- what a comprehension's turn asks -/
def CTurn (prog : Program) (w : World) (A : Around) (h₀ : Heap) (L : Addr) (m : Str → Option Value) (env : Env) (elt : Expr) (ifs : List Expr) (scope : Scope) (cl : List (Str × Addr)) (S : Led → Prop) (s : Shared) (Bnd : (Str → Option Value) → Prop) (J J' : (List Value → Led → Prop) → Prop) : Prop :=
  ∀ I, J fun ys news₁ => ∀ oI C oC D h tk m₂ E', S news₁ → NsObj oC m₂ → Bnd m₂ → Fr h₀ L h m → News h₀ L h ((I, oI) :: (C, oC) :: (D, lst ys) :: news₁) → Off3 I C D news₁ → ((@Ne Nat I C) ∧ (@Ne Nat I D) ∧ (@Ne Nat C D)) →
    TestElt prog w A h₀ L m (compEnvC scope cl C env) elt { s with heap := h, toks := tk } I oI C oC D ys S J' E' { s with heap := h, toks := tk } ifs
theorem assign_name {x : Str} {px : Pos} {v : Value} {scope : Scope} {cl : List (Str × Addr)} {C : Addr} {m' : Str → Option Value} {h : Heap} {tk : Nat} {Q' : Unit → Shared → Prop} {E' : Value → Shared → Prop} {s₂ : Shared} (hx : scope.names.lookup x = some .local) (hkind : scope.kind = .function) (hn : h.Ns C m')
    (q : ∀ h' tk' m₂, h'.Ns C m₂ → BndN x v m₂ → (∀ c o, c ≠ C → h.get? c = some o → h'.get? c = some o) → Q' () { s₂ with heap := h', toks := tk' }) :
    wpAny (model prog w) A (assign (.Name x px) (compEnvC scope cl C env) v) Q' E' { s₂ with heap := h, toks := tk } :=
  wpAny_assign_Name (wpAny_storeName_local (lookup_relabel_local hx) hn (fun h₃ hn₃ hs₃ => q h₃ _ _ hn₃ (by simp [BndN]) fun c o hc e => hs₃.extBut c o hc e) (by simp [compEnvC, relabel, hkind]))

theorem comp_list {ax : Addr} {its : Array Value} {x : Str} {px : Pos} {elt : Expr} {ifs : List Expr} {scope : Scope} {cl : List (Str × Addr)} {Fin : Shared → List Value → Led → Prop} (J : Led → Nat → (List Value → Led → Prop) → Prop)
    (hh : A.handled = none) (F : Fr h₀ L s.heap m) (N : News h₀ L s.heap news) (S : SrcAt h₀ ax its news) (hsz : its.size ≤ sizeLine) (hx : scope.names.lookup x = some .local) (hkind : scope.kind = .function) (hJ : ∀ K : List Value → Led → Prop, J news 0 K → K [] news)
    (turn : ∀ i v g, its[i]? = some v → CTurn prog w A h₀ L m env elt ifs scope cl (SrcAt h₀ ax its) { s with heap := g } (BndN x v) (J news i) (J news (i + 1)))
    (done : ∀ g, J news its.size fun ys news₁ => Fin { s with heap := g } ys news₁) :
    wpAny (model prog w) A (pyIter (.ref ax)) (fun it s₂ => CompAny prog w A h₀ L m env elt (.Name x px) ifs scope cl Fin it s₂) E s := by
  have hl := S.list F.keep N
  have hlt : ax < s.heap.objs.size := by obtain ⟨_, e, _⟩ := hl; exact Heap.lt_size e
  refine wpAny_pyIter_list hl ?_
  have up : ∀ b o, s.heap.get? b = some o → (s.heap.push { cls := .type "list_iterator", data := .fields #[.ref ax, .int 0 0] }).get? b = some o := fun b o e => Heap.get?_push_of_some _ e
  refine .mk _ _ _ its.size _ (fun _ v m₂ => BndN x v m₂) _ (SrcAt h₀ ax its) news (J news) (Walks.list hh s.heap.objs.size ax (Nat.ne_of_lt hlt) its) hsz (fun i h st => by obtain ⟨o, e, _⟩ := st.1; exact ⟨o, e⟩) list_st (fun _ _ _ _ _ _ q => go_name q) (fun b hb => ?_) (fun i v news₁ C m' h tk Q' E' _ _ _ _ hn _ q => assign_name hx hkind hn q)
    ⟨⟨_, Heap.get?_push_size _ rfl, rfl, rfl⟩, hl.push _⟩ (F.keeps up) (N.grown up) (Nat.ne_of_lt F.ns.lt) (next_is_new F) (fun p hp => Nat.ne_of_lt (Heap.lt_size (N p hp).1)) S hJ (fun i v _ hP => turn i v _ hP _) (done _)
  show b < (s.heap.push _).objs.size
  rw [Heap.size_push]
  rcases List.mem_cons.mp hb with rfl | hb
  · exact Nat.lt_succ_self _
  · rw [List.mem_singleton.mp hb]; exact Nat.lt_succ_of_lt hlt
theorem comp_str {str : Str} {t : Tok} {x : Str} {px : Pos} {elt : Expr} {ifs : List Expr} {scope : Scope} {cl : List (Str × Addr)} {Fin : Shared → List Value → Led → Prop} (J : Led → Nat → (List Value → Led → Prop) → Prop)
    (ha : str.cps.all (· < 128) = true) (hh : A.handled = none) (F : Fr h₀ L s.heap m) (N : News h₀ L s.heap news) (hsz : str.cps.size ≤ sizeLine) (hx : scope.names.lookup x = some .local) (hkind : scope.kind = .function) (hJ : ∀ K : List Value → Led → Prop, J news 0 K → K [] news)
    (turn : ∀ i c u g, str.cps[i]? = some c → CTurn prog w A h₀ L m env elt ifs scope cl (fun _ => True) { s with heap := g } (BndN x (.str ⟨#[c]⟩ u)) (J news i) (J news (i + 1)))
    (done : ∀ g, J news str.cps.size fun ys news₁ => Fin { s with heap := g } ys news₁) :
    wpAny (model prog w) A (pyIter (.str str t)) (fun it s₂ => CompAny prog w A h₀ L m env elt (.Name x px) ifs scope cl Fin it s₂) E s := by
  refine wpAny_pyIter_ascii ha ?_
  have up : ∀ b o, s.heap.get? b = some o → (s.heap.push { cls := .type "str_ascii_iterator", data := .fields #[.str str t, .int 0 0] }).get? b = some o := fun b o e => Heap.get?_push_of_some _ e
  refine .mk _ _ _ str.cps.size _ (fun _ v m₂ => BndN x v m₂) _ (fun _ => True) news (J news) (Walks.strAscii hh s.heap.objs.size str t) hsz (fun i h st => by obtain ⟨o, e, _⟩ := st; exact ⟨o, e⟩) (fun i h h' o nw st e e' _ _ _ => by obtain ⟨o', q, r⟩ := st; rw [e] at q; cases q; exact ⟨o, e', r⟩) (fun _ _ _ _ _ _ q => go_name q) (fun b hb => ?_) (fun i v news₁ C m' h tk Q' E' _ _ _ _ hn _ q => assign_name hx hkind hn q)
    ⟨_, Heap.get?_push_size _ rfl, rfl, rfl⟩ (F.keeps up) (N.grown up) (Nat.ne_of_lt F.ns.lt) (next_is_new F) (fun p hp => Nat.ne_of_lt (Heap.lt_size (N p hp).1)) trivial hJ ?_ (done _)
  · rw [List.mem_singleton.mp hb]
    show s.heap.objs.size < (s.heap.push _).objs.size
    rw [Heap.size_push]; exact Nat.lt_succ_self _
  · rintro i v _ ⟨c, u, hc, rfl⟩
    exact turn i c u _ hc _
theorem comp_range {r : Addr} {a b : Int} {t u v : Tok} {n : Nat} {x : Str} {px : Pos} {elt : Expr} {ifs : List Expr} {scope : Scope} {cl : List (Str × Addr)} {Fin : Shared → List Value → Led → Prop} (J : Led → Nat → (List Value → Led → Prop) → Prop)
    (hh : A.handled = none) (hr : IsRange s.heap r a b 1 t u v) (hsm : Builtin.Range.small a b 1 = true) (hn : Builtin.Range.rangeSize a b 1 = ((n : Nat) : Int)) (F : Fr h₀ L s.heap m) (N : News h₀ L s.heap news) (hsz : n ≤ sizeLine) (hx : scope.names.lookup x = some .local) (hkind : scope.kind = .function) (hJ : ∀ K : List Value → Led → Prop, J news 0 K → K [] news)
    (turn : ∀ i t g, i < n → CTurn prog w A h₀ L m env elt ifs scope cl (fun _ => True) { s with heap := g } (BndN x (.int (a + (i : Int)) t)) (J news i) (J news (i + 1)))
    (done : ∀ g, J news n fun ys news₁ => Fin { s with heap := g } ys news₁) :
    wpAny (model prog w) A (pyIter (.ref r)) (fun it s₂ => CompAny prog w A h₀ L m env elt (.Name x px) ifs scope cl Fin it s₂) E s := by
  refine wpAny_pyIter_range hr hsm ?_
  refine .mk _ _ _ n _ (fun _ v m₂ => BndN x v m₂) _ (fun _ => True) news (J news) (range_walks hh a n) hsz (fun i h st => ⟨_, st⟩) range_st (fun _ _ _ _ _ _ q => go_name q) (fun b hb => ?_) (fun i v news₁ C m' h tk Q' E' _ _ _ _ hn _ q => assign_name hx hkind hn q)
    (by show IsRangeIter _ _ _ _ _; rw [hn]; simpa using Heap.get?_push_size _ rfl) (F.keeps fun _ _ e => Heap.get?_push_of_some _ e) (N.grown fun _ _ e => Heap.get?_push_of_some _ e) (Nat.ne_of_lt F.ns.lt) (next_is_new F) (fun p hp => Nat.ne_of_lt (Heap.lt_size (N p hp).1)) trivial hJ ?_ (done _)
  · rw [List.mem_singleton.mp hb]
    show s.heap.objs.size < (s.heap.push _).objs.size
    rw [Heap.size_push]; exact Nat.lt_succ_self _
  · rintro i v hi ⟨t, rfl⟩
    exact turn i t _ hi _
end

-- LISTS COMPARED: of texts, of ints, of any items that a relation tells
section
variable {prog : Program} {w : World} {A : Around} {E : Value → Shared → Prop} {s : Shared}
def Encs {α : Type} (R : Value → α → Prop) (vs : List Value) (xs : List α) : Prop := vs.length = xs.length ∧ ∀ (i : Nat) (v : Value) (x : α), vs[i]? = some v → xs[i]? = some x → R v x
theorem Encs.nil {α : Type} {R : Value → α → Prop} : Encs R [] [] := ⟨rfl, fun i v x h => by simp at h⟩
theorem Encs.snoc {α : Type} {R : Value → α → Prop} {vs : List Value} {xs : List α} {v : Value} {x : α} (h : Encs R vs xs) (hv : R v x) : Encs R (vs ++ [v]) (xs ++ [x]) := by
  refine ⟨by simp [h.1], fun i v' x' h1 h2 => ?_⟩
  rcases Nat.lt_trichotomy i vs.length with hlt | heq | hgt
  · rw [List.getElem?_append_left hlt] at h1
    rw [List.getElem?_append_left (by rw [← h.1]; exact hlt)] at h2
    exact h.2 i v' x' h1 h2
  · subst heq
    rw [List.getElem?_append_right (Nat.le_refl _)] at h1
    rw [List.getElem?_append_right (by rw [← h.1]; exact Nat.le_refl _), ← h.1] at h2
    simp at h1 h2
    rw [← h1, ← h2]; exact hv
  · rw [List.getElem?_eq_none (by simp; omega)] at h1; cases h1
theorem Encs.strs (ws : List (Str × Tok)) : Encs (fun v (x : Str) => ∃ t, v = .str x t) (strValues ws) (ws.map (·.1)) := by
  refine ⟨by simp [strValues], fun i v x h1 h2 => ?_⟩
  simp only [strValues, List.getElem?_map] at h1 h2
  cases e : ws[i]? with
  | none => rw [e] at h1; cases h1
  | some p => rw [e] at h1 h2; exact ⟨p.2, by rw [← Option.some.inj h1, ← Option.some.inj h2]⟩
theorem enc_all {α : Type} [DecidableEq α] {xs ys : List α} (h : xs.length = ys.length) : (List.range xs.length).all (fun j => decide (xs[j]? = ys[j]?)) = decide (xs = ys) := by
  rw [Bool.eq_iff_iff, List.all_eq_true, decide_eq_true_eq]
  constructor
  · intro k
    refine List.ext_getElem? fun i => ?_
    rcases Nat.lt_or_ge i xs.length with hi | hi
    · exact of_decide_eq_true (k i (List.mem_range.mpr hi))
    · rw [List.getElem?_eq_none hi, List.getElem?_eq_none (by omega)]
  · rintro rfl x _; simp
theorem eq_encs {α : Type} [DecidableEq α] {R : Value → α → Prop} {a b : Addr} {vs us : List Value} {xs ys : List α} {Q : Value → Shared → Prop} (hl : s.heap.IsList a vs.toArray) (hb : s.heap.IsList b us.toArray) (hi : Encs R vs xs) (hj : Encs R us ys)
    (he : ∀ v u x y, R v x → R u y → SeqAt.EqAt A.in1 s v u (decide (x = y))) (hu : A.units < cLine) (h : Q (.bool (decide (xs = ys))) s) : wpAny (model prog w) A (compareOp .Eq (.ref a) (.ref b)) Q E s := by
  by_cases e : xs.length = ys.length
  · have e' : vs.length = us.length := by rw [hi.1, hj.1, e]
    refine SeqAt.eq_listAt (e := fun j => decide (xs[j]? = ys[j]?)) hl hb (by simpa using e') hu (fun j h1 h2 => ?_) ?_
    · have h1' : j < vs.length := by simpa using h1
      have h2' : j < us.length := by simpa using h2
      have k := he vs[j] us[j] (xs[j]'(hi.1 ▸ h1')) (ys[j]'(hj.1 ▸ h2')) (hi.2 j _ _ (by simp [h1']) (by simp [hi.1 ▸ h1'])) (hj.2 j _ _ (by simp [h2']) (by simp [hj.1 ▸ h2']))
      have q : decide (xs[j]? = ys[j]?) = decide (xs[j]'(hi.1 ▸ h1') = ys[j]'(hj.1 ▸ h2')) := by
        rw [List.getElem?_eq_getElem (hi.1 ▸ h1'), List.getElem?_eq_getElem (hj.1 ▸ h2')]; simp
      rw [q]; simpa using k
    · have : vs.toArray.size = xs.length := by simp [hi.1]
      rw [this, enc_all e]; exact h
  · refine SeqAt.eq_list_lengthsAt hl hb (by simp [hi.1, hj.1, e]) hu ?_
    rw [decide_eq_false (fun q => e (by rw [q]))] at h; exact h
theorem ne_encs {α : Type} [DecidableEq α] {R : Value → α → Prop} {a b : Addr} {vs us : List Value} {xs ys : List α} {Q : Value → Shared → Prop} (hl : s.heap.IsList a vs.toArray) (hb : s.heap.IsList b us.toArray) (hi : Encs R vs xs) (hj : Encs R us ys)
    (he : ∀ v u x y, R v x → R u y → SeqAt.EqAt A.in1 s v u (decide (x = y))) (hu : A.units < cLine) (h : Q (.bool (!decide (xs = ys))) s) : wpAny (model prog w) A (compareOp .NotEq (.ref a) (.ref b)) Q E s := by
  by_cases e : xs.length = ys.length
  · have e' : vs.length = us.length := by rw [hi.1, hj.1, e]
    refine SeqAt.RcNeAt.lists (e := fun j => decide (xs[j]? = ys[j]?)) hl hb (by simpa using e') hu (fun j h1 h2 => ?_) prog w E Q ?_
    · have h1' : j < vs.length := by simpa using h1
      have h2' : j < us.length := by simpa using h2
      have k := he vs[j] us[j] (xs[j]'(hi.1 ▸ h1')) (ys[j]'(hj.1 ▸ h2')) (hi.2 j _ _ (by simp [h1']) (by simp [hi.1 ▸ h1'])) (hj.2 j _ _ (by simp [h2']) (by simp [hj.1 ▸ h2']))
      have q : decide (xs[j]? = ys[j]?) = decide (xs[j]'(hi.1 ▸ h1') = ys[j]'(hj.1 ▸ h2')) := by
        rw [List.getElem?_eq_getElem (hi.1 ▸ h1'), List.getElem?_eq_getElem (hj.1 ▸ h2')]; simp
      rw [q]; simpa using k
    · have : vs.toArray.size = xs.length := by simp [hi.1]
      rw [this, enc_all e]; exact h
  · refine SeqAt.RcNeAt.lists_lengths hl hb (by simp [hi.1, hj.1, e]) hu prog w E Q ?_
    rw [decide_eq_false (fun q => e (by rw [q]))] at h; exact h
theorem eqAt_str {A : Around} (v u : Value) (x y : Str) (h1 : ∃ t, v = .str x t) (h2 : ∃ t, u = .str y t) : SeqAt.EqAt A s v u (decide (x = y)) := by
  obtain ⟨t, rfl⟩ := h1
  obtain ⟨t', rfl⟩ := h2
  have := (eqGives_str x y t t').at A s
  rwa [show (x == y) = decide (x = y) from by rw [Bool.eq_iff_iff]; simp] at this
/-- a list that stands in the ledger -/
def EStr (v : Value) (x : Str) : Prop := ∃ t, v = .str x t
inductive StrsIn : List Value → List Str → Prop
  | nil : StrsIn [] []
  | one (x : Str) (t : Tok) : StrsIn [.str x t] [x]
  | of (ws : List (Str × Tok)) : StrsIn (strValues ws) (ws.map (·.1))
theorem StrsIn.enc {vs : List Value} {xs : List Str} (h : StrsIn vs xs) : Encs (fun v (x : Str) => ∃ t, v = .str x t) vs xs := by
  cases h with
  | nil => exact Encs.nil
  | one x t => exact Encs.strs [(x, t)]
  | of ws => exact Encs.strs ws
variable {h₀ : Heap} {L : Addr} {news : Led}
theorem eq_strs {a b : Addr} {vs us : List Value} {n n' : Nat} {xs ys : List Str} {Q : Value → Shared → Prop} (N : News h₀ L s.heap news) (ma : (a, listOf vs.toArray n) ∈ news) (mb : (b, listOf us.toArray n') ∈ news) (hi : StrsIn vs xs) (hj : StrsIn us ys) (hu : A.units < cLine)
    (h : Q (.bool (decide (xs = ys))) s) : wpAny (model prog w) A (compareOp .Eq (.ref a) (.ref b)) Q E s := eq_encs (News.isList N ma) (News.isList N mb) hi.enc hj.enc eqAt_str hu h
theorem ne_strs {a b : Addr} {vs us : List Value} {n n' : Nat} {xs ys : List Str} {Q : Value → Shared → Prop} (N : News h₀ L s.heap news) (ma : (a, listOf vs.toArray n) ∈ news) (mb : (b, listOf us.toArray n') ∈ news) (hi : StrsIn vs xs) (hj : StrsIn us ys) (hu : A.units < cLine)
    (h : Q (.bool (!decide (xs = ys))) s) : wpAny (model prog w) A (compareOp .NotEq (.ref a) (.ref b)) Q E s := ne_encs (News.isList N ma) (News.isList N mb) hi.enc hj.enc eqAt_str hu h
end

-- LISTS OF TEXTS that stand in the ledger: cut, joined, read from behind
theorem strAt {l : List (Str × Tok)} {i : Nat} {v : Value} (h : (strValues l).toArray[i]? = some v) : ∃ p, l[i]? = some p ∧ v = .str p.1 p.2 := by
  have h' : (strValues l)[i]? = some v := by simpa using h
  unfold strValues at h'
  rw [List.getElem?_map] at h'
  cases e : l[i]? with
  | none => rw [e] at h'; cases h'
  | some p => rw [e] at h'; exact ⟨p, rfl, (Option.some.inj h').symm⟩
theorem strValues_append (a b : List (Str × Tok)) : strValues (a ++ b) = strValues a ++ strValues b := List.map_append
theorem add_one (a : List (Str × Tok)) (x : Str) (t : Tok) : (strValues a).toArray.toList ++ [Value.str x t] = strValues (a ++ [(x, t)]) := by simp [strValues]
theorem add_two (a b : List (Str × Tok)) : (strValues a).toArray.toList ++ (strValues b).toArray.toList = strValues (a ++ b) := by simp [strValues]
theorem pick_dropLast (ws : List (Str × Tok)) : kms_pick (strValues ws).toArray.toList none (some (-1)) = strValues ws.dropLast := by
  simp only [kms_pick, kms_lo, kms_hi, show ((-1 : Int) < 0) from by decide, if_true, Nat.sub_zero, List.drop_zero]
  rw [show (-(-1 : Int)).toNat = 1 from rfl, ← List.dropLast_eq_take]
  simp [strValues, List.map_dropLast]
section
variable {prog : Program} {w : World} {A : Around} {E : Value → Shared → Prop} {s : Shared}
theorem item_last {value slice : PySem.Expr} {l : Addr} {vs : List Value} {u : Tok} {x : Value} {Q : Value → Shared → Prop} (hl : s.heap.IsList l vs.toArray) (hx : vs.getLast? = some x) (h : Q x s)
    (hs : subscripted slice false (.ref l) (.int (-1) u) = operate [.ref l, .int (-1) u] (getItem (.ref l) (.int (-1) u)) := by with_unfolding_all rfl) :
    wpAny (model prog w) A (subscriptTail value slice (.ref l) (.int (-1) u)) Q E s := by
  have hp : 0 < vs.length := by
    cases vs with
    | nil => simp at hx
    | cons a r => simp
  refine tail_any hl.typeIs slot_list_getitem.lookup (wpAny_getItem_list_neg (x := x) hl (by decide) (by rw [List.size_toArray]; omega) (by decide) ?_ h) hs
  rw [List.size_toArray, show ((-1 : Int) + (vs.length : Nat)).toNat = vs.length - 1 by omega]
  rw [List.getLast?_eq_getElem?] at hx
  simpa using hx
end

-- own names for own steps: walk_at with a word of ours
local macro_rules | `(tactic| walk_at "my_enterC") => `(tactic| (refine wpAny_call ?_; k_dflt (refine' code_defC ?k1 ?k2 ?k3 ?k4 ?k5 ?kA ?kF ?kK ?k6 ?k7 ?k8 ?k9 ?kB ?kD ?_ ?c2 ?c3 ?c4; (case kA => exact rfl); (case kF => exact rfl); (case kK => assumption); (case k1 => k_asm); (case k2 => k_asm); (case k3 => k_asm); (case k4 => k_asm); (case k5 => k_asm); (case k6 => k_is); (case k7 => k_is); (case k8 => ktr_room); (case k9 => exact BindsTo.of_eq rfl); (case kB => exact rfl); (case kD => decide +kernel); (case c2 => exact rfl); (case c3 => exact rfl); (case c4 => exact rfl); k_whole; intro g' L' h' tk' cells' FG' F' N' Y' B' X' T' l1; (try k_lt l1); k_cells Y'; (try simp only [List.cons_append, List.nil_append] at N'); (try dsimp only); (try walk_at "my_around"); (try k_fold))))

local macro_rules | `(tactic| walk_at "eval Name") => `(tactic| (k_here; k_dflt (refine' nameX_L ?F ?v ?_ ?a ?b; (case a => rfl); (case b => rfl); (case F => k_asm); (case v => walk_at "my_look"); k_whole)))

def smallB (c : Nat) : Bool := decide (97 ≤ c) && decide (c ≤ 122)
def startB (c : Nat) : Bool := smallB c || (decide (65 ≤ c) && decide (c ≤ 90)) || decide (c = 95) || decide (c = 58)
def charB (c : Nat) : Bool := startB c || (decide (48 ≤ c) && decide (c ≤ 57)) || decide (c = 45) || decide (c = 46)
theorem lt1 {a b : Nat} : ([a] : List Nat) < [b] ↔ a < b := by
  rw [List.cons_lt_cons_iff]; simp
theorem s_a : (Str.ofString "a").cps.toList = [97] := by decide +kernel
theorem s_z : (Str.ofString "z").cps.toList = [122] := by decide +kernel
theorem s_A : (Str.ofString "A").cps.toList = [65] := by decide +kernel
theorem s_Z : (Str.ofString "Z").cps.toList = [90] := by decide +kernel
theorem s_0 : (Str.ofString "0").cps.toList = [48] := by decide +kernel
theorem s_9 : (Str.ofString "9").cps.toList = [57] := by decide +kernel
theorem str1_eq (c d : Nat) : ((⟨#[c]⟩ : Str) == ⟨#[d]⟩) = decide (c = d) := by
  rw [Bool.eq_iff_iff]; simp
theorem e_us : Str.ofString "_" = ⟨#[95]⟩ := by decide +kernel
theorem e_co : Str.ofString ":" = ⟨#[58]⟩ := by decide +kernel
theorem e_mi : Str.ofString "-" = ⟨#[45]⟩ := by decide +kernel
theorem e_do : Str.ofString "." = ⟨#[46]⟩ := by decide +kernel
theorem small_lo {c : Nat} (h : [c] < (Str.ofString "a").cps.toList) : (!decide ([c] < (Str.ofString "a").cps.toList)) = smallB c := by
  rw [s_a] at *; rw [lt1] at h; simp only [lt1, smallB]; simp only [h, decide_true, Bool.not_true]; symm; simp; omega
theorem small_hi {c : Nat} (h : ¬ [c] < (Str.ofString "a").cps.toList) : (!decide ((Str.ofString "z").cps.toList < [c])) = smallB c := by
  rw [s_a, lt1] at h; rw [s_z]; simp only [lt1, smallB]; simp only [show (97 ≤ c) from by omega, decide_true, Bool.true_and]; rw [← decide_not]; congr 1; simp
theorem w1 : True := by
  (k_with "~my_fold" => ((fail_if_success (fail_if_success k_fold)); (refine (let qk := _; (?_ : wpAny _ _ _ qk _ _)))))
  (k_with "~my_state" => ((fail_if_success (fail_if_success (conv => arg 6; pattern PySem.Shared.mk _ _ _ _ _))); (refine (let sk := _; (?_ : wpAny _ _ _ _ _ sk)))))
  (k_with "~my_around" => ((try refine (let vk := _; (?_ : wpAny _ _ (execs _ vk) _ _ _))); (refine (let ak := _; (?_ : wpAny _ ak _ _ _ _)))))
  (k_with "~my_enter" => (refine wpAny_call ?_; k_dflt ktr_enter; (try walk_at "my_around")))
  (k_with "~use2" => (
  (first | (refine post00 ?_; intro h9z9 tk9z9 F9z9 N9z9) | (refine post10 ?_; intro x1z9 h9z9 tk9z9 F9z9 N9z9) | (refine post20 ?_; intro x1z9 x2z9 h9z9 tk9z9 F9z9 N9z9) | (refine post21 ?_; intro x1z9 x2z9 q1z9 h9z9 tk9z9 F9z9 N9z9) | (refine post22 ?_; intro x1z9 x2z9 q1z9 q2z9 h9z9 tk9z9 F9z9 N9z9) | (refine post31 ?_; intro x1z9 x2z9 x3z9 q1z9 h9z9 tk9z9 F9z9 N9z9) | (refine post32 ?_; intro x1z9 x2z9 x3z9 q1z9 q2z9 h9z9 tk9z9 F9z9 N9z9) | (refine post33 ?_; intro x1z9 x2z9 x3z9 q1z9 q2z9 q3z9 h9z9 tk9z9 F9z9 N9z9) | (refine post41 ?_; intro x1z9 x2z9 x3z9 x4z9 q1z9 h9z9 tk9z9 F9z9 N9z9))
  (try walk_at "my_fold")
  (try dsimp only)
  (try k_sweep)
  (try walk_at "my_fold")))
  (k_with "~my_tail" => first | assumption | (refine' List.mem_cons_of_mem _ ?_; walk_at "my_tail"))
  (k_with "~my_sub" => first | exact fun _ hpz9 => hpz9 | exact List.forall_mem_nil _ | (refine' List.forall_mem_cons.mpr ⟨?_, ?_⟩; k_mem; walk_at "my_sub") | (intro pz9 hpz9; walk_at "my_tail"))
  (k_with "k_units" => ktr_units)
  (k_with "k_mem" => first | exact List.mem_cons_self | ktr_member | (refine' List.mem_cons_of_mem _ ?_; k_mem))
  (k_with "~my_and" => first | assumption | (refine And.right ?_; walk_at "my_and"))
  (k_with "~my_fresh" => first | assumption | exact ne_of_lts (by assumption) | exact ne_of_allLt (by first | assumption | exact And.right (by assumption) | exact And.right (And.right (by assumption)) | exact And.right (And.right (And.right (by assumption))) | exact And.right (And.right (And.right (And.right (by assumption)))) | exact And.right (And.right (And.right (And.right (And.right (by assumption))))) | exact And.right (And.right (And.right (And.right (And.right (And.right (by assumption)))))) | exact And.right (And.right (And.right (And.right (And.right (And.right (And.right (by assumption))))))) | exact And.right (And.right (And.right (And.right (And.right (And.right (And.right (And.right (by assumption))))))))))
  (k_with "~my_off" => first | assumption | exact List.forall_mem_nil _ | (refine' List.forall_mem_cons.mpr ⟨?_, ?_⟩; (first | k_ne | exact (by assumption : ∀ pz9 ∈ (_ : Led), pz9.1 ≠ _) _ (by k_mem)); walk_at "my_off") | (intro pz9 hpz9; first | exact (by assumption : ∀ pz9 ∈ (_ : Led), pz9.1 ≠ _) pz9 hpz9 | exact (by assumption : ∀ pz9 ∈ (_ : Led), pz9.1 ≠ _) pz9 (by walk_at "my_tail") | (have h9z9 := ltN ((by assumption : ∀ pz9 ∈ (_ : Led), pz9.1 < _) pz9 hpz9); refine neN ?_; omega)))
  (k_with "k_all" => walk_at "my_off")
  (k_with "~my_lt" => first | assumption | exact And.left (by assumption) | exact And.left (And.right (by assumption)) | exact And.left (And.right (And.right (by assumption))) | exact And.left (And.right (And.right (And.right (by assumption)))) | exact And.left (And.right (And.right (And.right (And.right (by assumption))))) | exact And.left (And.right (And.right (And.right (And.right (And.right (by assumption)))))) | exact And.left (And.right (And.right (And.right (And.right (And.right (And.right (by assumption))))))) | exact And.left (And.right (And.right (And.right (And.right (And.right (And.right (And.right (by assumption)))))))) | exact And.left (And.right (And.right (And.right (And.right (And.right (And.right (And.right (And.right (by assumption))))))))) | exact And.left (And.right (And.right (And.right (And.right (And.right (And.right (And.right (And.right (And.right (by assumption)))))))))) | exact And.left (And.right (And.right (And.right (And.right (And.right (And.right (And.right (And.right (And.right (And.right (by assumption))))))))))) | exact And.left (And.right (And.right (And.right (And.right (And.right (And.right (And.right (And.right (And.right (And.right (And.right (by assumption)))))))))))) | exact And.left (And.right (And.right (And.right (And.right (And.right (And.right (And.right (And.right (And.right (And.right (And.right (And.right (by assumption))))))))))))) | exact And.left (And.right (And.right (And.right (And.right (And.right (And.right (And.right (And.right (And.right (And.right (And.right (And.right (And.right (by assumption)))))))))))))) | exact And.left (And.right (And.right (And.right (And.right (And.right (And.right (And.right (And.right (And.right (And.right (And.right (And.right (And.right (And.right (by assumption))))))))))))))) | exact And.left (And.right (And.right (And.right (And.right (And.right (And.right (And.right (And.right (And.right (And.right (And.right (And.right (And.right (And.right (And.right (by assumption)))))))))))))))))
  (k_with "k_ne" => (refine neN ?_; (try dsimp only); first | assumption | exact Ne.symm (by assumption) | (refine Nat.ne_of_lt ?_; walk_at "my_lt") | (refine Nat.ne_of_gt ?_; walk_at "my_lt") | omega))
  (k_with "~my_for" => (k_here; (rename Fr _ _ _ _ => lF'z9); (with_unfolding_all refine' for_any lF'z9 ?_); (try walk_at "my_fold"); walk_say "MY FOR"))
  (k_with "~my_look" => first | with_reducible assumption | rfl | assumption)
  (k_with "~exec For Name Name cons nil" => walk_at "my_for")
  (k_with "~exec For Name Call cons nil" => walk_at "my_for")
  (k_with "~exec For Name List cons nil" => walk_at "my_for")
  (k_with "~exec For Tuple Name cons nil" => walk_at "my_for")
  (k_with "~exec For Tuple Call cons nil" => walk_at "my_for")
  (k_with "~exec For Name BinOp cons nil" => walk_at "my_for")
  (k_with "~TurnA" => (dsimp only [TurnA]))
  (k_with "~eval ListComp" => (k_here; k_dflt (refine' comp_any (by k_asm) (by with_unfolding_all rfl) (by decide) (by rfl) (by decide) (by decide) ?_); (try k_fold); walk_say "MY COMP"))
  (k_with "~exec Assign cons ListComp" => (k_here; k_dflt (refine' comp_assign (by k_asm) (by rfl) (by with_unfolding_all rfl) (by with_unfolding_all rfl) (by decide) (by rfl) (by decide) (by rfl) (by rfl) (by decide) ?_); (try k_fold); walk_say "MY COMP"))
  (k_with "~TestElt" => (dsimp only [TestElt]; (try k_fold)))
  (k_with "~compareOp In str ref" => (k_here; k_dflt (refine' in_tuple_strs (tupK (by k_in) (by k_is)) (by repeat constructor) ?_)))
  (k_with "~compareOp In str ref" => (k_here; k_dflt (refine' in_tuple_strs (News.isTup (by k_asm) (by k_mem)) (by repeat constructor) ?_)))
  (k_with "~my_strs" => first | exact StrsIn.of _ | exact StrsIn.nil | exact StrsIn.one _ _)
  (k_with "~compareOp Eq ref ref" => (k_here; k_dflt (refine' eq_strs (by k_asm) (by k_mem) (by k_mem) (by walk_at "my_strs") (by walk_at "my_strs") (by k_units) ?_)))
  (k_with "~compareOp NotEq ref ref" => (k_here; k_dflt (refine' ne_strs (by k_asm) (by k_mem) (by k_mem) (by walk_at "my_strs") (by walk_at "my_strs") (by k_units) ?_)))
  (k_with "~my_size" => (simp only [List.size_toArray, strValues, List.length_map, Array.length_toList, List.length_append, List.length_dropLast, List.length_cons, List.length_nil, sizeLine_eq]; omega))
  (k_with "~subscriptTail Name Slice ref ref" => (k_here; (with_reducible show wpAny _ _ (subscriptTail _ (PySem.Expr.Slice none _ none _) (Value.ref _) (Value.ref _)) _ _ _); k_dflt (refine' kms_slice_lit (by k_asm) (by k_asm) (by exact News.isList (by k_asm) (by k_mem)) (by kmk_part) (by kmk_part) (by exact pick_dropLast _) ?_ (by with_unfolding_all rfl) (by kmk_pure) (by walk_at "my_size")); intro D'z9 h'z9 F'z9 N'z9 l1z9; (try k_lt l1z9); (try k_sweep)))
  (k_with "~subscriptTail Name UnaryOp ref int" => (k_here; (with_reducible show wpAny _ _ (subscriptTail _ _ (Value.ref _) (Value.int _ _)) _ _ _); k_dflt (refine' item_last (by exact News.isList (by k_asm) (by k_mem)) (by assumption) ?_)))
  (k_with "~binaryOp Add ref ref" => (k_here; k_dflt (refine' kmk_add_lit (by k_asm) (by k_asm) (by exact News.isList (by k_asm) (by k_mem)) (by exact News.isList (by k_asm) (by k_mem)) (by first | exact add_one _ _ _ | exact add_two _ _) ?_ (by walk_at "my_size")); intro D'z9 h'z9 F'z9 N'z9 l1z9; (try k_lt l1z9); (try k_sweep)))
  trivial
set_option maxHeartbeats 4000000 in
theorem c_small (w : World) (c : Nat) (t : Tok) (news : Led) : Con w 1 52 [.str ⟨#[c]⟩ t] news (fun news' r => news' = news ∧ r = .bool (smallB c)) := by
  unfold Con; k_fill; intro loose mean mg mb dp un gd cn cs a ccd cl outer A₀ base h₀ L m s Q E B F X N T hk hdp hun hret; walk_at "my_enter"
  k_steps
  · exact hret _ _ _ _ (by k_asm) (by k_asm) ⟨rfl, congrArg Value.bool (small_lo (by assumption))⟩
  · exact hret _ _ _ _ (by k_asm) (by k_asm) ⟨rfl, congrArg Value.bool (small_hi (by assumption))⟩

theorem smallB_iff {c : Nat} : smallB c = decide (97 ≤ c ∧ c ≤ 122) := by unfold smallB; rw [Bool.decide_and]
theorem startB_iff {c : Nat} : startB c = decide ((97 ≤ c ∧ c ≤ 122) ∨ (65 ≤ c ∧ c ≤ 90) ∨ c = 95 ∨ c = 58) := by
  unfold startB; rw [smallB_iff]; simp only [Bool.decide_or, Bool.decide_and, Bool.or_assoc]
theorem charB_iff {c : Nat} : charB c = decide ((97 ≤ c ∧ c ≤ 122) ∨ (65 ≤ c ∧ c ≤ 90) ∨ c = 95 ∨ c = 58 ∨ (48 ≤ c ∧ c ≤ 57) ∨ c = 45 ∨ c = 46) := by
  unfold charB; rw [startB_iff]; simp only [Bool.decide_or, Bool.decide_and, Bool.or_assoc]
-- what the ends of the three sign tests ask
theorem w2 : True := by
  (k_with "~call ref" => (k_here; (with_reducible show wpAny _ _ (call (Value.ref 52) _) _ _ _); ktf_call (c_small _ _ _ _)))
  (k_with "~my_signs" => (law_clear; simp only [s_a, s_z, s_A, s_Z, s_0, s_9, lt1, str1_eq, e_us, e_co, e_mi, e_do, smallB_iff, startB_iff, charB_iff, ← decide_not, decide_eq_decide, decide_eq_true_eq, decide_eq_false_iff_not, decide_eq_true_eq, eq_comm (a := true), Bool.not_eq_true, Bool.not_eq_false] at *; omega))
  trivial
set_option maxHeartbeats 4000000 in
theorem c_start (w : World) (c : Nat) (t : Tok) (news : Led) (hc : c < 128) : Con w 2 59 [.str ⟨#[c]⟩ t] news (fun news' r => news' = news ∧ r = .bool (startB c)) := by
  unfold Con; k_fill; intro loose mean mg mb dp un gd cn cs a ccd cl outer A₀ base h₀ L m s Q E B F X N T hk hdp hun hret; walk_at "my_enter"
  k_steps
  all_goals exact hret _ _ _ _ (by k_asm) (by k_asm) ⟨rfl, congrArg Value.bool (by walk_at "my_signs")⟩
theorem w3 : True := by
  (k_with "~call ref" => (k_here; (with_reducible show wpAny _ _ (call (Value.ref 59) _) _ _ _); ktf_call (c_start _ _ _ _ (by assumption))))
  trivial
set_option maxHeartbeats 4000000 in
theorem c_char (w : World) (c : Nat) (t : Tok) (news : Led) (hc : c < 128) : Con w 3 66 [.str ⟨#[c]⟩ t] news (fun news' r => news' = news ∧ r = .bool (charB c)) := by
  unfold Con; k_fill; intro loose mean mg mb dp un gd cn cs a ccd cl outer A₀ base h₀ L m s Q E B F X N T hk hdp hun hret; walk_at "my_enter"
  k_steps
  all_goals exact hret _ _ _ _ (by k_asm) (by k_asm) ⟨rfl, congrArg Value.bool (by walk_at "my_signs")⟩


theorem take_all_succ {p : Nat → Bool} {x : Str} {i c : Nat} (hc : x.cps[i]? = some c) (h : (x.cps.toList.take i).all p = true) (h' : p c = true) : (x.cps.toList.take (i + 1)).all p = true := by
  have e : x.cps.toList[i]? = some c := by simpa using hc
  rw [List.take_succ, e]; simp [List.all_append, h, h']
theorem all_at {p : Nat → Bool} {x : Str} {i c : Nat} (hc : x.cps[i]? = some c) (h : x.cps.all p = true) : p c = true := by
  obtain ⟨hi, e⟩ := Array.getElem?_eq_some_iff.mp hc
  have := Array.all_eq_true.mp h i hi
  rw [← e]; exact this
theorem all_false_at {p : Nat → Bool} {x : Str} {i c : Nat} (hc : x.cps[i]? = some c) (h' : p c = false) : x.cps.all p = false := by
  cases h : x.cps.all p with
  | false => rfl
  | true => rw [all_at hc h] at h'; cases h'
theorem all_of_take {p : Nat → Bool} {x : Str} (h : (x.cps.toList.take x.cps.size).all p = true) : x.cps.all p = true := by
  rw [List.take_of_length_le (by simp)] at h; rw [← Array.all_toList]; exact h
theorem w4 : True := by
  (k_with "~call ref" => (k_here; (with_reducible show wpAny _ _ (call (Value.ref 66) _) _ _ _); ktf_call (c_char _ _ _ _ (by assumption))))
  trivial
set_option maxHeartbeats 4000000 in
theorem c_nmtoken (w : World) (x : Str) (t : Tok) (news : Led) (hx : x.cps.all (· < 128) = true) : Con w 4 73 [.str x t] news (fun news' r => news' = news ∧ r = .bool (x.cps.all charB && x != Str.empty)) := by
  unfold Con; k_fill; intro loose mean mg mb dp un gd cn cs a ccd cl outer A₀ base h₀ L m s Q E B F X N T hk hdp hun hret; walk_at "my_enter"
  k_steps
  (try walk_at "my_fold")
  refine iter_str (fun m₀ n₀ i K => ∀ m₁, m₁ (Str.ofString "text") = some (.str x t) → (x.cps.toList.take i).all charB = true → K m₁ n₀) hx rfl (by k_asm) (by k_asm) (fun K k => k _ (by rfl) rfl) ?_ ?_
  · intro I i c u hc m₁ hm1 hall oI h tk _ off F₁ N₁
    have hc' : c < 128 := by simpa using all_at hc hx
    k_steps
    · exact TE.intro (by k_asm) (by k_asm) (by k_sub) off trivial (fun K k => k _ (by exact hm1) (take_all_succ hc hall (by assumption)))
    · exact hret _ _ _ _ (by k_asm) (cb_drop (by k_asm) (by k_sub)) ⟨rfl, congrArg Value.bool (by rw [all_false_at hc (by assumption)]; rfl)⟩
  · intro m₁ hm1 hall h tk F₁ N₁
    k_steps
    exact hret _ _ _ _ (by k_asm) (by k_asm) ⟨rfl, congrArg Value.bool (by rw [all_of_take hall]; rfl)⟩

def nmB (x : Str) : Bool := x.cps.all charB && x != Str.empty
def nameB (x : Str) : Bool := x != Str.empty && startB (x.cps.getD 0 0) && x.cps.all charB
theorem e_empty : Str.ofString "" = Str.empty := by decide +kernel
theorem pos_of_ne {x : Str} (h : (x != Str.ofString "") = true) : 0 < x.cps.size := by
  rw [e_empty] at h
  rcases Nat.eq_zero_or_pos x.cps.size with e | e
  · exact absurd (show x = Str.empty from by cases x; simp only [Str.empty] at *; simp_all) (by simpa using h)
  · exact e
theorem item0 {x : Str} (h : 0 < x.cps.size) : Txt.item x 0 = ⟨#[x.cps.getD 0 0]⟩ := by
  have e : seqIndex? (0 : Int) x.length = some 0 := by
    have h' : 0 < x.length := h
    simp [seqIndex?, h']
  simp [Txt.item, Txt.charAt, h, e]
theorem getD_lt {x : Str} (hx : x.cps.all (· < 128) = true) : x.cps.getD 0 0 < 128 := by
  rcases Nat.eq_zero_or_pos x.cps.size with e | e
  · simp [Array.getD, e]
  · have := all_at (i := 0) (c := x.cps[0]) (by simp [e]) hx
    simp only [Array.getD, e, dif_pos]; simpa using this
theorem w5 : True := by
  (k_with "~call ref" => (k_here; (with_reducible show wpAny _ _ (call (Value.ref 73) _) _ _ _); ktf_call (c_nmtoken _ _ _ _ (by assumption))))
  trivial
set_option maxHeartbeats 4000000 in
theorem c_name (w : World) (x : Str) (t : Tok) (news : Led) (hx : x.cps.all (· < 128) = true) : Con w 5 80 [.str x t] news (fun news' r => news' = news ∧ r = .bool (nameB x)) := by
  unfold Con; k_fill; intro loose mean mg mb dp un gd cn cs a ccd cl outer A₀ base h₀ L m s Q E B F X N T hk hdp hun hret; walk_at "my_enter"
  have h128 := getD_lt hx
  k_steps
  · rename (_ != _) = true => hne
    rw [item0 (pos_of_ne hne)]
    rw [e_empty] at hne
    k_steps
    · rename startB _ = true => hst
      exact hret _ _ _ _ (by k_asm) (by k_asm) ⟨rfl, congrArg Value.bool (by unfold nameB; rw [hne, hst]; simp)⟩
    · rename startB _ = false => hst
      exact hret _ _ _ _ (by k_asm) (by k_asm) ⟨rfl, congrArg Value.bool (by unfold nameB; rw [hne, hst]; rfl)⟩
  · rename (_ != _) = false => hne
    exact hret _ _ _ _ (by k_asm) (by k_asm) ⟨rfl, congrArg Value.bool (by rw [e_empty] at hne; rw [e_empty]; unfold nameB; rw [hne]; rfl)⟩

theorem e_sp : Str.ofString " " = ⟨#[32]⟩ := by decide +kernel
def partB (x : Str) : List Str := (Txt.split x ⟨#[32]⟩).filter (fun y => y != Str.empty)
theorem part_weight (x : Str) : ((partB x).map (·.length)).sum + (partB x).length ≤ x.length + 1 := by
  have h1 := split_weight x ⟨#[32]⟩ (by decide)
  have key : ∀ l : List Str, ((l.filter (fun y => y != Str.empty)).map (·.length)).sum + (l.filter (fun y => y != Str.empty)).length ≤ (l.map (·.length)).sum + l.length := by
    intro l
    induction l with
    | nil => simp
    | cons a r ih =>
      simp only [List.filter_cons]
      split <;> simp only [List.map_cons, List.sum_cons, List.length_cons] <;> omega
  exact Nat.le_trans (key _) h1
theorem part_ok {x : Str} {l : List Str} (hx : x.cps.size ≤ 1000) (h : l = partB x) {s : Str} (hs : s.length ≤ 16) : JoinOk s l = true :=
  joinOk_of_weight (by have := part_weight x; have e : x.length = x.cps.size := rfl; rw [h]; omega) hs
theorem off1_mem {D : Addr} : ∀ {l : Led}, LCg.Off1 D l → ∀ p ∈ l, p.1 ≠ D
  | [], _, _, h => nomatch h
  | _ :: _, x, p, h => by
    rcases List.mem_cons.mp h with rfl | h
    · exact x.1
    · exact off1_mem x.2 p h
theorem take_fst {l : List (Str × Tok)} {i : Nat} {p : Str × Tok} (h : l[i]? = some p) : (l.map (·.1)).take (i + 1) = (l.map (·.1)).take i ++ [p.1] := by
  rw [List.take_succ, List.getElem?_map, h]; rfl
theorem w6 : True := by
  (k_with "~call ref" => (k_here; (with_reducible show wpAny _ _ (call (Value.ref 80) _) _ _ _); ktf_call (c_name _ _ _ _ (by assumption))))
  trivial
set_option maxHeartbeats 4000000 in
theorem c_blank (w : World) (x : Str) (t : Tok) (news : Led) (hx : x.cps.size ≤ 1000) : Con w 1 121 [.str x t] news (fun news' r => ∃ a n ws, ws.map (·.1) = partB x ∧ (∀ p ∈ news, p.1 ≠ a) ∧ r = .ref a ∧ news' = (a, listOf (strValues ws).toArray n) :: news) := by
  unfold Con; k_fill; intro loose mean mg mb dp un gd cn cs a ccd cl outer A₀ base h₀ L m s Q E B F X N T hk hdp hun hret; walk_at "my_enter"
  k_steps
  (try walk_at "my_fold")
  rename_i l h' k hl hs hsh hil F' N'
  refine comp_list (fun n₀ i K => ∀ ws, ws.map (·.1) = ((l.map (·.1)).take i).filter (fun y => y != Str.empty) → K (strValues ws) n₀) rfl (by k_asm) (by k_asm) (.inr ⟨_, .head _, rfl, _, rfl⟩) ?_ rfl rfl (fun K k => k [] (by simp)) ?_ ?_
  · have h1 := split_weight x ⟨#[32]⟩ (by decide)
    rw [← e_sp, ← hl] at h1
    simp only [List.length_map] at h1
    simp only [strValues, List.size_toArray, List.length_map, sizeLine_eq]
    have h2 : x.length ≤ 1000 := hx
    omega
  · intro i v g hv
    obtain ⟨p, hp, rfl⟩ := strAt hv
    intro I ws hws oI C oC D h tk m₂ E' S hoC hB F₁ N₁ o3 ne
    dsimp only [BndN] at hB
    dsimp only [TestElt]
    k_steps
    · rename (_ != _) = true => hne
      rw [e_empty] at hne
      exact LCg.CompEnd.intro (by k_asm) (by k_asm) _ (by k_sub) o3 S (fun K k => strValues_append ws [p] ▸ k (ws ++ [p]) (by rw [List.map_append, hws, take_fst hp, List.filter_append]; simp [hne]))
    · rename (_ != _) = false => hne
      rw [e_empty] at hne
      exact LCg.CompEnd.intro (by k_asm) (by k_asm) _ (by k_sub) o3 S (fun K k => k ws (by rw [hws, take_fst hp, List.filter_append]; simp [hne]))
  · intro g ws hws D h tk F₁ N₁ o1
    k_steps
    refine hret _ _ _ _ (by k_asm) (cb_drop (by k_asm) ?_) ⟨D, (strValues ws).length, ws, ?_, off1_mem o1.2, rfl, rfl⟩
    · walk_at "my_sub"
    · rw [hws, List.take_of_length_le (by simp [strValues]), hl, e_sp]; rfl


theorem w7 : True := by
  (k_with "~call ref" => (k_here; (with_reducible show wpAny _ _ (call (Value.ref 121) _) _ _ _); ktf_call (c_blank _ _ _ _ (by assumption))))
  trivial
set_option maxHeartbeats 4000000 in
theorem c_norm (w : World) (kd x : Str) (t u : Tok) (news : Led) (hx : x.cps.size ≤ 1000) : Con w 2 128 [.str kd u, .str x t] news (fun news' r => ∃ t', news' = news ∧ r = .str (if (kd == Str.ofString "CDATA") = true then x else Txt.join ⟨#[32]⟩ (partB x)) t') := by
  unfold Con; k_fill; intro loose mean mg mb dp un gd cn cs a ccd cl outer A₀ base h₀ L m s Q E B F X N T hk hdp hun hret; walk_at "my_enter"
  k_steps
  · rename (_ == _) = true => hq
    exact hret _ _ _ _ (by k_asm) (by k_asm) ⟨_, rfl, by rw [if_pos hq]⟩
  · rename (_ == _) = false => hq
    rename List.map _ _ = _ => hw
    refine SC.join (News.isList (by k_asm) (List.Mem.head _)) hw (part_ok hx rfl (by decide)) ?_
    intro t' k
    k_steps
    exact hret _ _ _ _ (by k_asm) (cb_drop (by k_asm) (by k_sub)) ⟨_, rfl, by rw [hq, e_sp]; rfl⟩


def listK (kd : Str) : Bool := [Str.ofString "IDREFS", Str.ofString "ENTITIES", Str.ofString "NMTOKENS"].any fun x => x == kd
def wordsB (kd x : Str) : List Str := if listK kd = true then partB x else [x]
theorem w8 : True := by
  (k_with "~call ref" => (k_here; (with_reducible show wpAny _ _ (call (Value.ref 128) _) _ _ _); ktf_call (c_norm _ _ _ _ _ _ (by assumption))))
  trivial
set_option maxHeartbeats 4000000 in
theorem c_words (w : World) (kd x : Str) (t u : Tok) (news : Led) (hx : x.cps.size ≤ 1000) : Con w 2 135 [.str kd u, .str x t] news (fun news' r => ∃ a n ws, ws.map (·.1) = wordsB kd x ∧ (∀ p ∈ news, p.1 ≠ a) ∧ r = .ref a ∧ news' = (a, listOf (strValues ws).toArray n) :: news) := by
  unfold Con; k_fill; intro loose mean mg mb dp un gd cn cs a ccd cl outer A₀ base h₀ L m s Q E B F X N T hk hdp hun hret; walk_at "my_enter"
  k_steps
  · rename List.any _ _ = true => hq
    rename List.map _ _ = _ => hw
    exact hret _ _ _ _ (by k_asm) (by k_asm) ⟨_, _, _, by rw [hw]; exact (if_pos hq).symm, by assumption, rfl, rfl⟩
  · rename List.any _ _ = false => hq
    exact hret _ _ _ _ (by k_asm) (by k_asm) ⟨_, _, [(x, t)], by unfold wordsB listK; rw [hq]; rfl, ne_of_lts (by assumption), rfl, rfl⟩


def tokK (kd : Str) : Bool := [Str.ofString "NMTOKEN", Str.ofString "NMTOKENS"].any fun x => x == kd
def wordB (kd x : Str) : Bool := if tokK kd = true then x.cps.all charB && x != Str.empty else nameB x
theorem w9 : True := by
  (k_with "~call ref" => (k_here; (with_reducible show wpAny _ _ (call (Value.ref 135) _) _ _ _); ktf_call (c_words _ _ _ _ _ _ (by assumption))))
  trivial
set_option maxHeartbeats 4000000 in
theorem c_isword (w : World) (kd x : Str) (t u : Tok) (news : Led) (hx : x.cps.all (· < 128) = true) : Con w 6 142 [.str kd u, .str x t] news (fun news' r => news' = news ∧ r = .bool (wordB kd x)) := by
  unfold Con; k_fill; intro loose mean mg mb dp un gd cn cs a ccd cl outer A₀ base h₀ L m s Q E B F X N T hk hdp hun hret; walk_at "my_enter"
  k_steps
  · rename List.any _ _ = true => hq
    exact hret _ _ _ _ (by k_asm) (cb_drop (by k_asm) (by walk_at "my_sub")) ⟨rfl, by unfold wordB tokK; rw [if_pos hq]⟩
  · rename List.any _ _ = false => hq
    exact hret _ _ _ _ (by k_asm) (cb_drop (by k_asm) (by walk_at "my_sub")) ⟨rfl, by unfold wordB tokK; rw [hq]; rfl⟩

def chK (kd : Str) : Bool := [Str.ofString "enumeration", Str.ofString "notation"].any fun x => x == kd
def fitB (kd x : Str) : Bool := (kd == Str.ofString "CDATA") || (!chK kd && wordsB kd x != [] && (wordsB kd x).all (wordB kd))
theorem all_sub {p : Nat → Bool} {x y : Str} (h : x.cps.all p = true) (hs : ∀ c ∈ y.cps.toList, c ∈ x.cps.toList) : y.cps.all p = true := by
  rw [← Array.all_toList] at h ⊢
  rw [List.all_eq_true] at h ⊢
  exact fun c hc => h c (hs c hc)
theorem mem_join (sep : Str) : ∀ (l : List Str) (y : Str), y ∈ l → ∀ c ∈ y.cps.toList, c ∈ (Str.join sep l).cps.toList
  | [], _, h, _, _ => nomatch h
  | [a], y, h, c, hc => by rw [List.mem_singleton.mp h] at hc; exact hc
  | a :: b :: r, y, h, c, hc => by
    show c ∈ (a ++ sep ++ Str.join sep (b :: r)).cps.toList
    rw [Str.cps_append, Array.toList_append, List.mem_append]
    rcases List.mem_cons.mp h with rfl | h
    · left; rw [Str.cps_append, Array.toList_append, List.mem_append]; exact .inl hc
    · exact .inr (mem_join sep (b :: r) y h c hc)
theorem part_sub {x y : Str} (h : y ∈ partB x) : ∀ c ∈ y.cps.toList, c ∈ x.cps.toList := by
  have h' : y ∈ Txt.split x ⟨#[32]⟩ := (List.mem_filter.mp h).1
  intro c hc
  have := mem_join ⟨#[32]⟩ _ y h' c hc
  rwa [StrLaws.join_split] at this
theorem words_mem {kd x y : Str} (hx : x.cps.all (· < 128) = true) (hz : x.cps.size ≤ 1000) (h : y ∈ wordsB kd x) : y.cps.all (· < 128) = true ∧ y.cps.size ≤ 1000 := by
  unfold wordsB at h
  split at h
  · exact ⟨all_sub hx (part_sub h), Nat.le_trans (part_short (List.mem_filter.mp h).1) hz⟩
  · rw [List.mem_singleton.mp h]; exact ⟨hx, hz⟩
theorem any_false_at {α : Type} {l : List α} {f : α → Bool} {i : Nat} {a : α} (h : l[i]? = some a) (hf : f a = false) : l.all f = false := by
  rw [List.all_eq_false]
  exact ⟨a, List.mem_of_getElem? h, by rw [hf]; simp⟩
theorem w10 : True := by
  (k_with "~call ref" => (k_here; (with_reducible show wpAny _ _ (call (Value.ref 142) _) _ _ _); ktf_call (c_isword _ _ _ _ _ _ (by assumption))))
  trivial
set_option maxHeartbeats 4000000 in
theorem c_fits (w : World) (kd x : Str) (t : Tok) (ra rd ca : Addr) (h1 h2 h3 h4 : Int) (t1 t2 t3 t4 u u3 : Tok) (n n2 : Nat) (news : Led) (hx : x.cps.all (· < 128) = true) (hz : x.cps.size ≤ 1000)
    (hr : (ra, instObj 112 rd) ∈ news)
    (hd1 : (rd, dictOf [⟨h1, .str (Str.ofString "kind") t1, .str kd u⟩, ⟨h2, .str (Str.ofString "choices") t2, .ref ca⟩, ⟨h3, .str (Str.ofString "mode") t3, .str (Str.ofString "implied") u3⟩, ⟨h4, .str (Str.ofString "value") t4, .none⟩] n) ∈ news)
    (hc : (ca, ({ cls := .type "tuple", data := .seq #[] n2 } : Obj)) ∈ news) (hk1 : kd.cps.size ≤ 100) :
    Con w 7 149 [.ref ra, .str x t] news (fun news' r => news' = news ∧ ((fitB kd x = true ∧ r = .none) ∨ (fitB kd x = false ∧ ∃ y t, r = .str y t))) := by
  unfold Con; k_fill; intro loose mean mg mb dp un gd cn cs a ccd cl outer A₀ base h₀ L m s Q E B F X N T hk hdp hun hret; walk_at "my_enter"
  k_steps
  · rename (_ == _) = true => hq
    exact hret _ _ _ _ (by k_asm) (by k_asm) ⟨rfl, .inl ⟨by unfold fitB; rw [hq]; rfl, rfl⟩⟩
  · rename List.any [] _ = true => hq
    exact absurd hq (by simp)
  · rename List.any [] _ = false => hq
    clear hq
    rename List.any _ _ = true => hq
    rename (_ == _) = false => hq2
    exact hret _ _ _ _ (by k_asm) (cb_drop (by k_asm) (by walk_at "my_sub")) ⟨rfl, .inr ⟨by unfold fitB chK; rw [hq, hq2]; rfl, _, _, rfl⟩⟩
  · rename List.any _ _ = false => hq
    rename (_ == _) = false => hq2
    rename decide _ = true => hq3
    rename List.map _ _ = wordsB _ _ => hq4
    rw [hq4] at hq3
    exact hret _ _ _ _ (by k_asm) (cb_drop (by k_asm) (by walk_at "my_sub")) ⟨rfl, .inr ⟨by unfold fitB chK; rw [of_decide_eq_true hq3]; simp [hq2], _, _, rfl⟩⟩
  · rename List.any _ _ = false => hq
    rename (_ == _) = false => hq2
    rename decide _ = false => hq3
    rename List.map _ _ = wordsB _ _ => hw
    rw [hw] at hq3
    refine iter_list (fun m₀ n₀ i K => ∀ m₁, m₁ (Str.ofString "rule") = some (.ref ra) → ((wordsB kd x).take i).all (wordB kd) = true → K m₁ n₀) rfl (by k_asm) (by k_asm) (.inr ⟨_, by k_mem, rfl, _, rfl⟩) (fun K k => k _ (by rfl) rfl) ?_ ?_
    · intro I i v hv
      intro m₁ hmr hall oI h tk S off F₁ N₁
      (try walk_at "my_fold")
      obtain ⟨p, hp, rfl⟩ := strAt hv
      have hm := words_mem hx hz (hw ▸ List.mem_map_of_mem (List.mem_of_getElem? hp))
      have hm1 := hm.1
      have hm2 : p.1.length ≤ 1000 := hm.2
      have hk2 : kd.length ≤ 100 := hk1
      have hpw : (wordsB kd x)[i]? = some p.1 := by rw [← hw, List.getElem?_map, hp]; rfl
      k_steps
      · exact TE.intro (by k_asm) (by k_asm) (by k_sub) off S (fun K k => k _ (by exact hmr) (by rw [List.take_succ, hpw]; simp only [List.all_append, hall, Option.toList, List.all_cons, List.all_nil, Bool.true_and, Bool.and_true]; assumption))
      · rename wordB kd p.1 = false => hq5
        exact hret _ _ _ _ (by k_asm) (cb_drop (by k_asm) (by walk_at "my_sub")) ⟨rfl, .inr ⟨by unfold fitB; rw [hq2, any_false_at hpw hq5]; simp, _, _, rfl⟩⟩
    · intro m₁ hmr hall h tk F₁ N₁
      k_steps
      rw [List.take_of_length_le (by rw [← hw]; simp [strValues])] at hall
      exact hret _ _ _ _ (by k_asm) (cb_drop (by k_asm) (by walk_at "my_sub")) ⟨rfl, .inl ⟨by unfold fitB chK; rw [hq, hall]; simp only [hq2, Bool.not_false, Bool.true_and, Bool.and_true, Bool.false_or, bne_iff_ne]; exact of_decide_eq_false hq3, rfl⟩⟩


def okB (c : Nat) : Bool := [97, 98, 99, 107, 49, 55, 45].contains c
def sgn (c : Nat) : Str := ⟨#[c]⟩
def badS (l : List Nat) : List Str := (l.filter fun c => !okB c).map sgn
theorem badS_succ {x : Str} {i c : Nat} (hc : x.cps[i]? = some c) : badS (x.cps.toList.take (i + 1)) = badS (x.cps.toList.take i) ++ (if okB c = true then [] else [sgn c]) := by
  have e : x.cps.toList[i]? = some c := by simpa using hc
  unfold badS
  rw [List.take_succ, e, List.filter_append, List.map_append]
  congr 1
  cases h : okB c <;> simp [h]
theorem occ7 : ∀ c, c < 128 → (Builtin.Str.occurrences (Str.ofString "abck17-") { cps := #[c] } 0 (Str.ofString "abck17-").length 1).isEmpty = !okB c := by decide +kernel
def headB (c : Nat) : Bool := [97, 98, 99, 107].contains c
theorem occ4 : ∀ c, c < 128 → (Builtin.Str.occurrences (Str.ofString "abck") { cps := #[c] } 0 (Str.ofString "abck").length 1).isEmpty = !headB c := by decide +kernel
def lawWordB (x : Str) (b : Bool) : Bool := x != Str.empty && x.cps.all okB && (b || headB (x.cps.getD 0 0))
theorem badS_nil {x : Str} : badS x.cps.toList = [] ↔ x.cps.all okB = true := by
  unfold badS
  rw [List.map_eq_nil_iff, List.filter_eq_nil_iff, ← Array.all_toList, List.all_eq_true]
  constructor <;> intro h c hc <;> have := h c hc <;> simpa using this
theorem w11 : True := by
  (k_with "~call ref" => (k_here; (with_reducible show wpAny _ _ (call (Value.ref 149) _) _ _ _); ktf_call (c_fits _ _ _ _ _ _ _ _ _ _ _ _ _ _ _ _ _ _ _ _ (by assumption) (by assumption) (by k_mem) (by k_mem) (by k_mem) (by assumption))))
  trivial
set_option maxHeartbeats 4000000 in
theorem c_lawword (w : World) (x : Str) (t : Tok) (b : Bool) (news : Led) (hx : x.cps.all (· < 128) = true) (hz : x.cps.size ≤ 1000) : Con w 3 566 [.str x t, .bool b] news (fun news' r => news' = news ∧ r = .bool (lawWordB x b)) := by
  unfold Con; k_fill; intro loose mean mg mb dp un gd cn cs a ccd cl outer A₀ base h₀ L m s Q E B F X N T hk hdp hun hret; walk_at "my_enter"
  k_steps
  · rename (_ == _) = true => hne
    rw [e_empty, beq_iff_eq] at hne
    exact hret _ _ _ _ (by k_asm) (cb_drop (by k_asm) (by walk_at "my_sub")) ⟨rfl, by rw [hne]; rfl⟩
  · rename (_ == _) = false => hne
    refine comp_str (fun n₀ i K => ∀ ws, ws.map (·.1) = badS (x.cps.toList.take i) → K (strValues ws) n₀) hx rfl (by k_asm) (by k_asm) (by rw [sizeLine_eq]; omega) rfl rfl (fun K k => k [] rfl) ?_ ?_
    · intro i c u g hc I ws hws oI C oC D h tk m₂ E' _ hoC hB F₁ N₁ o3 ne
      have hc8 : c < 128 := by simpa using all_at hc hx
      dsimp only [BndN] at hB
      dsimp only [TestElt]
      k_steps
      · rename List.isEmpty _ = true => hq
        rw [occ7 c hc8] at hq
        exact LCg.CompEnd.intro (by k_asm) (by k_asm) _ (by k_sub) o3 trivial (fun K k => strValues_append ws [(sgn c, u)] ▸ k (ws ++ [(sgn c, u)]) (by rw [badS_succ hc, List.map_append, hws]; simp at hq; simp [hq]))
      · rename List.isEmpty _ = false => hq
        rw [occ7 c hc8] at hq
        exact LCg.CompEnd.intro (by k_asm) (by k_asm) _ (by k_sub) o3 trivial (fun K k => k ws (by rw [badS_succ hc, hws]; simp at hq; simp [hq]))
    · intro g ws hws D h tk F₁ N₁ o1
      have h128 := getD_lt hx
      rw [List.take_of_length_le (by simp)] at hws
      have hne' : x != Str.empty := by rw [e_empty] at hne; simp only [bne, hne, Bool.not_false]
      k_steps
      · rename decide _ = true => hq
        rename b = true => hb
        rw [hws, decide_eq_true_eq, badS_nil] at hq
        exact hret _ _ _ _ (by k_asm) (cb_drop (by k_asm) (by walk_at "my_sub")) ⟨rfl, congrArg Value.bool (by unfold lawWordB; rw [hne', hq, hb]; rfl)⟩
      · rename decide _ = true => hq
        rename b = false => hb
        rename (x != Str.empty) = true => hne'
        rw [hws, decide_eq_true_eq, badS_nil] at hq
        exact hret _ _ _ _ (by k_asm) (cb_drop (by k_asm) (by walk_at "my_sub")) ⟨rfl, congrArg Value.bool (by unfold lawWordB; rw [item0 (pos_of_ne (by rw [e_empty]; exact hne')), occ4 _ h128, hne', hq, hb]; simp)⟩
      · rename decide _ = false => hq
        rw [hws, decide_eq_false_iff_not, badS_nil, Bool.not_eq_true] at hq
        exact hret _ _ _ _ (by k_asm) (cb_drop (by k_asm) (by walk_at "my_sub")) ⟨rfl, congrArg Value.bool (by unfold lawWordB; rw [hq]; simp)⟩

theorem map_norm1 {V : Type} {a : Str} {f g : Str → V} (ha : f a = g a) (h : ∀ y, y ≠ a → f y = g y) : f = g := by
  funext y; by_cases q : y = a
  · rw [q]; exact ha
  · exact h y q
theorem map_norm2 {V : Type} {a b : Str} {f g : Str → V} (ha : f a = g a) (hb : f b = g b) (h : ∀ y, y ≠ a → y ≠ b → f y = g y) : f = g :=
  map_norm1 (a := a) ha fun y h1 => by
    by_cases q : y = b
    · rw [q]; exact hb
    · exact h y h1 q
theorem map_norm3 {V : Type} {a b c : Str} {f g : Str → V} (ha : f a = g a) (hb : f b = g b) (hc : f c = g c) (h : ∀ y, y ≠ a → y ≠ b → y ≠ c → f y = g y) : f = g :=
  map_norm2 (a := a) (b := b) ha hb fun y h1 h2 => by
    by_cases q : y = c
    · rw [q]; exact hc
    · exact h y h1 h2 q
def stP (s : List Str × Bool) (c : Nat) : List Str × Bool :=
  if c = 32 then (s.1, false) else if s.2 = true then (s.1.dropLast ++ [s.1.getLastD Str.empty ++ sgn c], true) else (s.1 ++ [sgn c], true)
def partP (l : List Nat) : List Str × Bool := l.foldl stP ([], false)
theorem partP_succ {x : Str} {i c : Nat} (hc : x.cps[i]? = some c) : partP (x.cps.toList.take (i + 1)) = stP (partP (x.cps.toList.take i)) c := by
  have e : x.cps.toList[i]? = some c := by simpa using hc
  unfold partP
  rw [List.take_succ, e, List.foldl_append]; rfl
theorem sgn_eq {c d : Nat} : (({ cps := #[c] } : Str) = ⟨#[d]⟩) ↔ c = d := by simp
def PInv (n : Nat) (s : List Str × Bool) : Prop := s.1.length ≤ n ∧ (∀ y ∈ s.1, y.length ≤ n) ∧ (s.2 = true → s.1 ≠ [])
theorem stP_inv {n : Nat} {s : List Str × Bool} (c : Nat) (h : PInv n s) : PInv (n + 1) (stP s c) := by
  obtain ⟨f, o⟩ := s
  obtain ⟨h1, h2, h3⟩ := h
  simp only at h1 h2 h3
  unfold stP
  split
  · exact ⟨Nat.le_succ_of_le h1, fun y hy => Nat.le_succ_of_le (h2 y hy), fun h => by cases h⟩
  · split
    · refine ⟨by simp only [List.length_append, List.length_dropLast, List.length_cons, List.length_nil]; have := Nat.sub_le f.length 1; omega, fun y hy => ?_, fun _ => by simp⟩
      rcases List.mem_append.mp hy with hy | hy
      · exact Nat.le_succ_of_le (h2 y (List.dropLast_subset _ hy))
      · rw [List.mem_singleton.mp hy]
        show (f.getLastD Str.empty ++ sgn c).length ≤ n + 1
        rw [Str.length_append]
        have e1 : (sgn c).length = 1 := rfl
        have e2 : (f.getLastD Str.empty).length ≤ n := by
          cases hl : f.getLast? with
          | none => rw [List.getLastD_eq_getLast?, hl]; exact Nat.zero_le _
          | some z => rw [List.getLastD_eq_getLast?, hl]; exact h2 z (List.mem_of_getLast? hl)
        omega
    · refine ⟨by simp only [List.length_append, List.length_cons, List.length_nil]; omega, fun y hy => ?_, fun _ => by simp⟩
      rcases List.mem_append.mp hy with hy | hy
      · exact Nat.le_succ_of_le (h2 y hy)
      · rw [List.mem_singleton.mp hy]; exact Nat.le_add_left 1 n
theorem foldl_inv : ∀ (l : List Nat) {n : Nat} {s : List Str × Bool}, PInv n s → PInv (n + l.length) (l.foldl stP s)
  | [], _, _, h => h
  | c :: r, n, s, h => by
    have := foldl_inv r (stP_inv c h)
    simp only [List.foldl_cons, List.length_cons]
    rwa [show n + (r.length + 1) = n + 1 + r.length by omega]
theorem partP_inv (l : List Nat) : PInv l.length (partP l) := by
  have := foldl_inv l (n := 0) (s := ([], false)) ⟨Nat.le_refl _, (fun y hy => by simp at hy), (fun h => by simp at h)⟩
  rwa [Nat.zero_add] at this
theorem w12 : True := by
  (k_with "~call ref" => (k_here; (with_reducible show wpAny _ _ (call (Value.ref 566) _) _ _ _); ktf_call (c_lawword _ _ _ _ _ (by assumption) (by assumption))))
  trivial
set_option maxHeartbeats 4000000 in
theorem c_parted (w : World) (x : Str) (t : Tok) (news : Led) (hx : x.cps.all (· < 128) = true) (hz : x.cps.size ≤ 1000) : Con w 3 561 [.str x t] news (fun news' r => ∃ a n ws, ws.map (·.1) = (partP x.cps.toList).1 ∧ (∀ p ∈ news, p.1 ≠ a) ∧ r = .ref a ∧ news' = (a, listOf (strValues ws).toArray n) :: news) := by
  unfold Con; k_fill; intro loose mean mg mb dp un gd cn cs a ccd cl outer A₀ base h₀ L m s Q E B F X N T hk hdp hun hret; walk_at "my_enter"
  k_steps
  (try walk_at "my_fold")
  rename _ ∧ AllLt _ _ => hlt
  rename ∀ p ∈ news, _ < _ => hl'
  refine iter_str (fun m₀ n₀ i K => ∀ m₁ fa k ws o, (∀ p ∈ news, p.1 ≠ fa) → m₁ (Str.ofString "is_open") = some (.bool o) → m₁ (Str.ofString "found") = some (.ref fa) → (ws.map (·.1), o) = partP (x.cps.toList.take i) → K m₁ ((fa, listOf (strValues ws).toArray k) :: news)) hx rfl (by k_asm) (cb_drop (by k_asm) (by walk_at "my_sub")) (fun K k => k _ _ 0 [] false (by exact ne_of_lts hl') (by rfl) (by rfl) rfl) ?_ ?_
  · intro I i c u hc m₁ fa k ws o hfa hm1 hm2 hst oI h tk _ off F₁ N₁
    have hinv := partP_inv (x.cps.toList.take i)
    rw [← hst] at hinv
    obtain ⟨hi1, hi2, hi3⟩ := hinv
    have hi : i < x.cps.size := (Array.getElem?_eq_some_iff.mp hc).1
    simp only [List.length_map, List.length_take, Array.length_toList] at hi1 hi2
    have hlen : ws.length ≤ 1000 := by omega
    have hst' := partP_succ hc
    rw [← hst] at hst'
    cases o with
    | true =>
      obtain ⟨ws0, p, rfl⟩ : ∃ ws0 p, ws = ws0 ++ [p] := by
        have : ws ≠ [] := fun e => hi3 rfl (by rw [e]; rfl)
        exact ⟨_, _, (List.dropLast_concat_getLast this).symm⟩
      have hlast : (strValues (ws0 ++ [p])).getLast? = some (.str p.1 p.2) := by simp [strValues]
      have hp1 : p.1.length ≤ 1000 := by have := hi2 p.1 (by simp); omega
      have hlen0 : ws0.length + 1 ≤ 1000 := by simpa using hlen
      have off' : ∀ p ∈ news, p.1 ≠ I := fun p hp => off p (List.mem_cons_of_mem _ hp)
      k_steps
      · rename (_ != _) = true => hq
        have hq' := hq
        rw [e_sp, bne_iff_ne, ne_eq, sgn_eq] at hq'
        exact TE.intro (by k_asm) (by k_asm) (by walk_at "my_sub") (by walk_at "my_off") trivial (fun K k => k _ _ 0 ((ws0 ++ [p]).dropLast ++ [(p.1 ++ sgn c, _)]) _ (by walk_at "my_fresh") (by rfl) (by rfl) (by rw [hst', stP, if_neg hq', hq]; simp))
      · rename (_ != _) = false => hq
        have hq' := hq
        rw [e_sp, bne_eq_false_iff_eq, sgn_eq] at hq'
        exact TE.intro (by k_asm) (by k_asm) (by walk_at "my_sub") off trivial (fun K k' => k' _ _ k (ws0 ++ [p]) _ hfa (by rfl) (by exact hm2) (by rw [hst', stP, if_pos hq', hq]))
    | false =>
      have off' : ∀ p ∈ news, p.1 ≠ I := fun p hp => off p (List.mem_cons_of_mem _ hp)
      k_steps
      · rename (_ != _) = true => hq
        have hq' := hq
        rw [e_sp, bne_iff_ne, ne_eq, sgn_eq] at hq'
        exact TE.intro (by k_asm) (by k_asm) (by walk_at "my_sub") (by walk_at "my_off") trivial (fun K k => k _ _ 0 (ws ++ [(sgn c, _)]) _ (by walk_at "my_fresh") (by rfl) (by rfl) (by rw [hst', stP, if_neg hq', hq]; simp))
      · rename (_ != _) = false => hq
        have hq' := hq
        rw [e_sp, bne_eq_false_iff_eq, sgn_eq] at hq'
        exact TE.intro (by k_asm) (by k_asm) (by walk_at "my_sub") off trivial (fun K k' => k' _ _ k ws _ hfa (by rfl) (by exact hm2) (by rw [hst', stP, if_pos hq', hq]))
  · intro m₁ fa k ws o hfa hm1 hm2 hst h tk F₁ N₁
    k_steps
    refine hret _ _ _ _ (by k_asm) (by k_asm) ⟨_, _, ws, ?_, hfa, rfl, rfl⟩
    rw [List.take_of_length_le (by simp)] at hst
    rw [← hst]

-- a list at a place, its length
section
variable {prog : Program} {w : World} {A : Around} {E : Value → Shared → Prop} {s : Shared}
theorem item_at {value slice : PySem.Expr} {l : Addr} {vs : List Value} {k : Int} {u : Tok} {x : Value} {Q : Value → Shared → Prop} (hl : s.heap.IsList l vs.toArray) (h0 : 0 ≤ k) (h1 : k < 2 ^ 63) (hx : vs[k.toNat]? = some x) (h : Q x s)
    (hs : subscripted slice false (.ref l) (.int k u) = operate [.ref l, .int k u] (getItem (.ref l) (.int k u)) := by with_unfolding_all rfl) :
    wpAny (model prog w) A (subscriptTail value slice (.ref l) (.int k u)) Q E s :=
  tail_any hl.typeIs slot_list_getitem.lookup (wpAny_getItem_list hl h0 h1 (by simpa using hx) h) hs
theorem len_at {l : Addr} {vs : List Value} {Q : Value → Shared → Prop} (hl : s.heap.IsList l vs.toArray) (hf : vs.length < 2 ^ 62) (h : Q (.int (vs.length : Nat) (s.toks + 1)) { s with toks := s.toks + 1 + 1 }) :
    wpAny (model prog w) A (call (.builtin "len") [.ref l]) Q E s := by
  refine Calls.call_len_list hl (by rw [List.size_toArray]; omega) ?_
  rw [List.size_toArray]; exact h
end

-- A CONTRACT OF A CALL THAT TURNS ITS FIRST ARGUMENT: the entry is taken out of the ledger
inductive Pick (a : Addr) (o : Obj) : Led → Led → Prop
  | head {r : Led} : Pick a o ((a, o) :: r) r
  | tail {p : Addr × Obj} {l r : Led} : Pick a o l r → Pick a o (p :: l) (p :: r)
theorem Pick.sub {a : Addr} {o : Obj} : ∀ {l r : Led}, Pick a o l r → ∀ p ∈ (a, o) :: r, p ∈ l
  | _, _, .head, p, h => h
  | _, _, .tail (p := q) k, p, h => by
    rcases List.mem_cons.mp h with rfl | h
    · exact List.mem_cons_of_mem _ (k.sub _ List.mem_cons_self)
    · rcases List.mem_cons.mp h with rfl | h
      · exact List.mem_cons_self
      · exact List.mem_cons_of_mem _ (k.sub _ (List.mem_cons_of_mem _ h))
theorem Con.useP {w : World} {need : Nat} {f a' : Addr} {o : Obj} {vs : List Value} {l rest : Led} {Post : Led → Value → Prop}
    {loose : List Str} {mean : ExcName → Option Value} {mg mb : Str → Option Value} {dp un : Nat} {gd : Option (List Code)} {cn : Str} {cs : Scope} {a : Addr} {ccd : Value} {cl : List (Str × Addr)} {outer : List Env} {A₀ : Around} {base h₀ : Heap} {L : Addr} {m : Str → Option Value} {s : Shared}
    {Q E : Value → Shared → Prop} (B : Below A₀ base outer h₀) (F : Fr h₀ L s.heap m) (X : (hd.heap_1 w.params).In h₀) (N : News h₀ L s.heap l) (T : Top hd.view_1 loose mean mg mb h₀) (hk : cs.kind = .function) (P : Pick a' o l rest)
    (C : Con w need f (.ref a' :: vs) ((a', o) :: rest) Post) (hd : dp + need < recursionLimit) (hu : un + 8 * need < cLine)
    (h : ∀ r news' h' tk', Fr h₀ L h' m → News h₀ L h' news' → Post news' r → Q r { s with heap := h', toks := tk' }) :
    wpAny (model PySem.Challenge.rw_sm0078_01.row.prog w) (ktrTop dp un gd cn cs L a ccd cl outer) (call (.ref f) (.ref a' :: vs)) Q E s := C _ _ _ _ _ _ _ _ _ _ _ _ _ _ _ _ _ _ _ _ _ B F X (cb_drop N P.sub) T hk hd hu h

local macro_rules | `(tactic| ktr_call $c:term $_d:term) => `(tactic| k_dflt (refine' Con.useP ?a ?b ?d ?e ?f ?g ?p ?c ?h ?i ?_; (case a => k_asm); (case b => k_asm); (case d => k_asm); (case e => k_asm); (case f => k_asm); (case g => first | exact rfl | assumption); (case p => walk_at "my_pick"); (case c => exact $c); (case h => ktr_room); (case i => ktr_units); k_extra "~use2"))

def SrcO (o : Obj) : Prop := ∃ a b t1 t2 n, o = listOf #[.int a t1, .int b t2] n ∧ 0 ≤ a ∧ 0 ≤ b ∧ b < 2147483647
theorem fdiv_nn {a t : Int} (ha : 0 < a) (ht : 1 ≤ t) : 0 ≤ a.fdiv t := by
  rw [Int.fdiv_eq_ediv_of_nonneg _ (by omega)]; exact Int.ediv_nonneg (by omega) (by omega)
theorem w13 : True := by
  (k_with "~call ref" => (k_here; (with_reducible show wpAny _ _ (call (Value.ref 561) _) _ _ _); ktf_call (c_parted _ _ _ _ (by assumption) (by assumption))))
  (k_with "~call builtin:len" => (k_here; (with_reducible show wpAny _ _ (call (Value.builtin _) [Value.ref _]) _ _ _); k_dflt (refine' len_at (by exact News.isList (by k_asm) (by k_mem)) (by first | omega | ((simp only [List.length_cons, List.length_nil, List.length_append, List.length_map, strValues]); omega)) ?_)))
  (k_with "~my_pick" => first | exact Pick.head | (refine' Pick.tail (by walk_at "my_pick")))
  trivial
set_option maxHeartbeats 4000000 in
theorem c_take (w : World) (src : Addr) (top : Int) (t : Tok) (o : Obj) (rest : Led) (ho : SrcO o) (h1 : 1 ≤ top) (h2 : top ≤ 100) (hf : ∀ p ∈ rest, p.1 ≠ src) : Con w 2 542 [.ref src, .int top t] ((src, o) :: rest) (fun news' r => ∃ o' d t', SrcO o' ∧ 0 ≤ d ∧ d < top ∧ r = .int d t' ∧ news' = (src, o') :: rest) := by
  obtain ⟨a0, b0, t1, t2, n, rfl, ha, hb, hb2⟩ := ho
  unfold Con; k_fill; intro loose mean mg mb dp un gd cn cs a ccd cl outer A₀ base h₀ L m s Q E B F X N T hk hdp hun hret; walk_at "my_enter"
  k_steps
  · rename 0 < _ => hpos
    have hpos' : 0 < a0 := hpos
    exact hret _ _ _ _ (by k_asm) (by k_asm) ⟨_, _, _, ⟨_, _, _, _, _, rfl, fdiv_nn hpos' h1, hb, hb2⟩, fmod_lo _ (by omega), fmod_hi _ (by omega), rfl, rfl⟩
  · change wpAny _ _ (binaryOp _ (.int ((b0 * 39373 + 7).fmod 2147483647) _) (.int ((b0 * 39373 + 7).fmod 2147483647) _)) _ _ _
    have hX1 := fmod_lo (b0 * 39373 + 7) (n := 2147483647) (by decide)
    have hX2 := fmod_hi (b0 * 39373 + 7) (n := 2147483647) (by decide)
    generalize hX : (b0 * 39373 + 7).fmod 2147483647 = X at hX1 hX2
    k_steps
    exact hret _ _ _ _ (by k_asm) (by k_asm) ⟨_, _, _, ⟨_, _, _, _, _, rfl, ha, by show 0 ≤ (b0 * 39373 + 7).fmod 2147483647; rw [hX]; exact hX1, by show (b0 * 39373 + 7).fmod 2147483647 < _; rw [hX]; exact hX2⟩, fmod_lo _ (by omega), fmod_hi _ (by omega), rfl, rfl⟩


theorem pick_ex {α : Type} {vs : List α} {d : Int} (h0 : 0 ≤ d) (h1 : d < ((vs.length : Nat) : Int)) : ∃ v, vs[d.toNat]? = some v := ⟨_, List.getElem?_eq_getElem (by omega)⟩
theorem w14 : True := by
  (k_with "~call ref" => (k_here; (with_reducible show wpAny _ _ (call (Value.ref 542) _) _ _ _); ktr_call (c_take _ _ _ _ _ _ (by assumption) (by first | assumption | decide) (by first | assumption | decide) (by walk_at "my_off")) ()))
  trivial
set_option maxHeartbeats 4000000 in
theorem c_one (w : World) (src th : Addr) (vs : List Value) (n : Nat) (o : Obj) (rest : Led) (ho : SrcO o) (hm : (th, listOf vs.toArray n) ∈ rest) (h1 : 1 ≤ vs.length) (h2 : vs.length ≤ 100) (hf : ∀ p ∈ rest, p.1 ≠ src) : Con w 4 549 [.ref src, .ref th] ((src, o) :: rest) (fun news' r => ∃ o' v, SrcO o' ∧ v ∈ vs ∧ r = v ∧ news' = (src, o') :: rest) := by
  unfold Con; k_fill; intro loose mean mg mb dp un gd cn cs a ccd cl outer A₀ base h₀ L m s Q E B F X N T hk hdp hun hret; walk_at "my_enter"
  have g1 : (1 : Int) ≤ ((vs.length : Nat) : Int) := by omega
  have g2 : ((vs.length : Nat) : Int) ≤ 100 := by omega
  k_steps
  (try walk_at "my_fold")
  rename (0 : Int) ≤ _ => d0
  rename _ < ((vs.length : Nat) : Int) => d1
  obtain ⟨v, hv⟩ := pick_ex d0 d1
  refine item_at (News.isList (by k_asm) (by k_mem)) d0 (by omega) hv ?_
  k_steps
  (try walk_at "my_fold")
  rename SrcO _ => ho'
  exact hret _ _ _ _ (by k_asm) (by k_asm) ⟨_, _, ho', List.mem_of_getElem? hv, rfl, rfl⟩


def alphB (c : Nat) : Bool := [97, 98, 49, 45, 99, 55, 107, 32, 9, 10].contains c
def ValOk (x : Str) : Prop := x.cps.all alphB = true ∧ x.cps.size ≤ 12
def PieceOk (x : Str) : Prop := x.cps.all alphB = true ∧ x.cps.size ≤ 2
theorem rng_small (n : Nat) (h : n < 7) : Builtin.Range.small 0 ((n : Nat) : Int) 1 = true := by
  have : ∀ n, n < 7 → Builtin.Range.small 0 ((n : Nat) : Int) 1 = true := by decide +kernel
  exact this n h
theorem rng_size (n : Nat) (h : n < 7) : Builtin.Range.rangeSize 0 ((n : Nat) : Int) 1 = ((n : Nat) : Int) := by
  have : ∀ n, n < 7 → Builtin.Range.rangeSize 0 ((n : Nat) : Int) 1 = ((n : Nat) : Int) := by decide +kernel
  exact this n h
theorem join_pieces {l : List Str} (h : ∀ y ∈ l, PieceOk y) : (Txt.join (Str.ofString "") l).cps.all alphB = true ∧ (Txt.join (Str.ofString "") l).cps.size ≤ 2 * l.length ∧ (l.map (·.length)).sum + l.length ≤ 3 * l.length := by
  have e : Txt.join (Str.ofString "") l = Str.join Str.empty l := by rw [← e_empty]; exact StrLaws.glued_eq_join _ _
  rw [e]
  induction l with
  | nil => exact ⟨by show (Str.empty).cps.all alphB = true; simp [Str.empty], Nat.le_refl _, Nat.le_refl _⟩
  | cons a r ih =>
    have ha := h a List.mem_cons_self
    have hr := ih (fun y hy => h y (List.mem_cons_of_mem _ hy)) (by rw [← e_empty]; exact StrLaws.glued_eq_join _ _)
    have hal : a.length ≤ 2 := ha.2
    cases r with
    | nil => exact ⟨ha.1, ha.2, by simp only [List.map_cons, List.map_nil, List.sum_cons, List.sum_nil, List.length_cons, List.length_nil]; omega⟩
    | cons b r =>
      have e2 : (Str.join Str.empty (a :: b :: r)).cps = a.cps ++ (Str.join Str.empty (b :: r)).cps := by
        show (a ++ Str.empty ++ Str.join Str.empty (b :: r)).cps = _
        rw [Str.cps_append, Str.cps_append]; simp [Str.empty]
      rw [e2]
      refine ⟨by rw [Array.all_append, ha.1, hr.1]; rfl, ?_, ?_⟩
      · rw [Array.size_append]; have := ha.2; have := hr.2.1; simp only [List.length_cons] at *; omega
      · have := hr.2.2; simp only [List.map_cons, List.sum_cons, List.length_cons] at *; omega
theorem w15 : True := by
  (k_with "~call ref" => (k_here; (with_reducible show wpAny _ _ (call (Value.ref 549) _) _ _ _); ktr_call (c_one _ _ _ _ _ _ _ (by assumption) (by k_mem) (by first | assumption | exact Nat.le_of_ble_eq_true rfl) (by first | assumption | exact Nat.le_of_ble_eq_true rfl) (by walk_at "my_off")) ()))
  trivial
set_option maxHeartbeats 4000000 in
theorem c_value (w : World) (src : Addr) (o : Obj) (rest : Led) (ho : SrcO o) (hf : ∀ p ∈ rest, p.1 ≠ src) : Con w 6 554 [.ref src] ((src, o) :: rest) (fun news' r => ∃ o' v t, SrcO o' ∧ ValOk v ∧ r = .str v t ∧ news' = (src, o') :: rest) := by
  unfold Con; k_fill; intro loose mean mg mb dp un gd cn cs a ccd cl outer A₀ base h₀ L m s Q E B F X N T hk hdp hun hret; walk_at "my_enterC"
  rename _ ∧ AllLt _ _ => hl1
  have hL := ktn_ltOf hl1.2
  k_steps
  (try walk_at "my_fold")
  rename (0 : Int) ≤ _ => d0
  rename _ < (7 : Int) => d1
  obtain ⟨n, rfl⟩ := Int.eq_ofNat_of_zero_le d0
  have hn7 : n < 7 := by omega
  rename IsRange _ _ _ _ _ _ _ _ => hR
  refine comp_range (n := n) (fun n₀ i K => ∀ o' ws, SrcO o' → ws.length = i → (∀ p ∈ ws, PieceOk p.1) → K (strValues ws) ((src, o') :: n₀.tail)) rfl hR (rng_small n hn7) (rng_size n hn7) (by k_asm) (by k_asm) (by rw [sizeLine_eq]; omega) rfl rfl (fun K k => by exact k _ [] (by assumption) rfl (fun _ h => nomatch h)) ?_ ?_
  · intro i t g hi I o' ws ho' hwl hwp oI C oC D h tk m₂ E' _ hoC hB F₁ N₁ o3 ne
    dsimp only [BndN] at hB
    dsimp only [List.tail] at N₁ o3 ⊢
    dsimp only [TestElt]
    have e1 : @Ne Nat src I := o3.1.1
    have e2 : @Ne Nat src C := o3.1.2.1
    have e3 : @Ne Nat src D := o3.1.2.2
    k_steps
    (try walk_at "my_fold")
    rename SrcO _ => ho2
    rename (_ ∈ (_ : List Value)) => hmem
    obtain ⟨y, u, rfl, hy⟩ := (show ∀ v ∈ _, ∃ y u, v = Value.str y u ∧ PieceOk y from by
      (repeat' (refine List.forall_mem_cons.mpr ⟨⟨_, _, rfl, by decide +kernel, by decide +kernel⟩, ?_⟩)); exact List.forall_mem_nil _) _ hmem
    exact LCg.CompEnd.intro (by k_asm) (by k_asm) ((src, _) :: _) (by walk_at "my_sub") ⟨⟨e1, e2, e3⟩, o3.2⟩ trivial (fun K k => strValues_append ws [(y, u)] ▸ k _ (ws ++ [(y, u)]) ho2 (by simp [hwl]) fun p hp => by
      rcases List.mem_append.mp hp with hp | hp
      · exact hwp p hp
      · rw [List.mem_singleton.mp hp]; exact hy)
  · intro g o' ws ho' hwl hwp D h tk F₁ N₁ o1
    dsimp only [List.tail] at N₁ o1
    k_steps
    (try walk_at "my_fold")
    have hv := join_pieces (l := ws.map (·.1)) (fun y hy => by obtain ⟨p, hp, rfl⟩ := List.mem_map.mp hy; exact hwp p hp)
    refine SC.join (News.isList (by k_asm) List.mem_cons_self) rfl (joinOk_of_weight ?_ (by decide)) ?_
    · have := hv.2.2; simp only [List.length_map] at this ⊢; omega
    intro t' k
    k_steps
    exact hret _ _ _ _ (by k_asm) (cb_drop (by k_asm) (by walk_at "my_sub")) ⟨o', _, _, ho', ⟨hv.1, by have := hv.2.1; simp only [List.length_map] at this; omega⟩, rfl, rfl⟩

-- THE PLAIN LAW of words: what stands between blanks
def mk (l : List Nat) : Str := ⟨l.toArray⟩
theorem mk_toList (x : Str) : mk x.cps.toList = x := by cases x; simp [mk]
theorem toList_mk (l : List Nat) : (mk l).cps.toList = l := by simp [mk]
theorem mk_inj {a b : List Nat} (h : mk a = mk b) : a = b := by have := congrArg (fun x : Str => x.cps.toList) h; simpa [mk] using this
theorem mk_append (a b : List Nat) : mk (a ++ b) = mk a ++ mk b := by
  have : (mk (a ++ b)).cps = (mk a ++ mk b).cps := by rw [Str.cps_append]; simp [mk]
  cases h1 : mk (a ++ b); cases h2 : mk a ++ mk b; rw [h1, h2] at this; simp only at this; rw [this]
theorem mk_nil_iff {l : List Nat} : (mk l != Str.empty) = decide (l ≠ []) := by
  rw [Bool.eq_iff_iff, bne_iff_ne, decide_eq_true_eq]
  constructor
  · intro h e; rw [e] at h; exact h rfl
  · intro h e; exact h (mk_inj (b := []) e)
def splitL : List Nat → List (List Nat)
  | [] => [[]]
  | c :: r => if c = 32 then [] :: splitL r else match splitL r with
    | h :: t => (c :: h) :: t
    | [] => [[c]]
theorem splitL_ne (l : List Nat) : splitL l ≠ [] := by
  cases l with
  | nil => simp [splitL]
  | cons c r => unfold splitL; split <;> (try simp); split <;> simp
theorem splitL_free {a : List Nat} (h : 32 ∉ a) : splitL a = [a] := by
  induction a with
  | nil => rfl
  | cons c r ih =>
    have hc : c ≠ 32 := fun e => h (by rw [e]; exact List.mem_cons_self)
    rw [splitL, if_neg hc, ih (fun q => h (List.mem_cons_of_mem _ q))]
theorem splitL_sep {a r : List Nat} (h : 32 ∉ a) : splitL (a ++ 32 :: r) = a :: splitL r := by
  induction a with
  | nil => simp [splitL]
  | cons c t ih =>
    have hc : c ≠ 32 := fun e => h (by rw [e]; exact List.mem_cons_self)
    rw [List.cons_append, splitL, if_neg hc, ih (fun q => h (List.mem_cons_of_mem _ q))]
def joinL : List (List Nat) → List Nat
  | [] => []
  | [a] => a
  | a :: b :: r => a ++ 32 :: joinL (b :: r)
theorem splitL_join : ∀ ps : List (List Nat), ps ≠ [] → (∀ p ∈ ps, 32 ∉ p) → splitL (joinL ps) = ps
  | [], h, _ => absurd rfl h
  | [a], _, h => splitL_free (h a List.mem_cons_self)
  | a :: b :: r, _, h => by
    rw [joinL, splitL_sep (h a List.mem_cons_self), splitL_join (b :: r) (by simp) fun p hp => h p (List.mem_cons_of_mem _ hp)]
theorem join_mk : ∀ ps : List Str, Str.join ⟨#[32]⟩ ps = mk (joinL (ps.map fun y => y.cps.toList))
  | [] => rfl
  | [a] => (mk_toList a).symm
  | a :: b :: r => by
    show a ++ ⟨#[32]⟩ ++ Str.join ⟨#[32]⟩ (b :: r) = mk (a.cps.toList ++ 32 :: joinL ((b :: r).map fun y => y.cps.toList))
    rw [join_mk (b :: r), show (a.cps.toList ++ 32 :: joinL ((b :: r).map fun y => y.cps.toList)) = a.cps.toList ++ [32] ++ joinL ((b :: r).map fun y => y.cps.toList) by simp, mk_append, mk_append, mk_toList]
    rfl
theorem split_nonempty (x : Str) : Txt.split x ⟨#[32]⟩ ≠ [] := by
  intro h
  have e := StrLaws.join_split x ⟨#[32]⟩
  rw [h] at e
  have e' : x = Str.empty := e.symm
  rw [e'] at h
  exact absurd h (by decide +kernel)
theorem split_is (x : Str) : Txt.split x ⟨#[32]⟩ = (splitL x.cps.toList).map mk := by
  have hj := StrLaws.join_split x ⟨#[32]⟩
  rw [join_mk] at hj
  have hf : ∀ p ∈ (Txt.split x ⟨#[32]⟩).map (fun y => y.cps.toList), 32 ∉ p := by
    intro p hp
    obtain ⟨y, hy, rfl⟩ := List.mem_map.mp hp
    exact StrLaws.split_free x 32 y hy
  have hs := splitL_join _ (by simpa using split_nonempty x) hf
  have e : joinL ((Txt.split x ⟨#[32]⟩).map fun y => y.cps.toList) = x.cps.toList := by rw [← toList_mk (joinL _), hj]
  rw [e] at hs
  rw [hs, List.map_map]
  exact (List.map_id _).symm.trans (List.map_congr_left fun y _ => (mk_toList y).symm)
def wordsL (l : List Nat) : List (List Nat) := (splitL l).filter fun w => decide (w ≠ [])
theorem partB_is (x : Str) : partB x = (wordsL x.cps.toList).map mk := by
  unfold partB wordsL
  rw [split_is, List.filter_map]
  congr 1
  apply List.filter_congr
  intro w _
  exact mk_nil_iff
theorem splitL_mem_free : ∀ (l : List Nat), ∀ p ∈ splitL l, 32 ∉ p
  | [], p, hp => by rw [splitL, List.mem_singleton] at hp; rw [hp]; simp
  | c :: r, p, hp => by
    have ih := splitL_mem_free r
    unfold splitL at hp
    split at hp
    · rcases List.mem_cons.mp hp with rfl | hp
      · simp
      · exact ih p hp
    · rename_i hc
      split at hp
      · rename_i h t e
        rcases List.mem_cons.mp hp with rfl | hp
        · intro q
          rcases List.mem_cons.mp q with q | q
          · exact hc q.symm
          · exact ih h (by rw [e]; exact List.mem_cons_self) q
        · exact ih p (by rw [e]; exact List.mem_cons_of_mem _ hp)
      · rw [List.mem_singleton.mp hp]; simp [Ne.symm hc]
theorem wordsL_join (l : List Nat) : wordsL (joinL (wordsL l)) = wordsL l := by
  cases h : wordsL l with
  | nil => decide
  | cons a r =>
    rw [← h]
    have hne : wordsL l ≠ [] := by rw [h]; simp
    show (splitL (joinL (wordsL l))).filter _ = _
    rw [splitL_join _ hne fun p hp => splitL_mem_free l p (List.mem_filter.mp hp).1]
    exact List.filter_eq_self.mpr fun w hw => (List.mem_filter.mp hw).2
theorem partB_join (x : Str) : partB (Txt.join ⟨#[32]⟩ (partB x)) = partB x := by
  have e : Txt.join ⟨#[32]⟩ (partB x) = mk (joinL (wordsL x.cps.toList)) := by
    show Builtin.Str.glued _ _ = _
    rw [StrLaws.glued_eq_join, join_mk, partB_is, List.map_map]
    congr 2
    exact (List.map_congr_left fun y _ => toList_mk y).trans (List.map_id _)
  rw [e, partB_is, toList_mk, wordsL_join, ← partB_is]
theorem splitL_blank : ∀ l : List Nat, splitL (l ++ [32]) = splitL l ++ [[]]
  | [] => rfl
  | d :: r => by
    have ih := splitL_blank r
    rw [List.cons_append, splitL, splitL, ih]
    by_cases hd : d = 32
    · rw [if_pos hd, if_pos hd]; rfl
    · rw [if_neg hd, if_neg hd]
      cases h : splitL r with
      | nil => exact absurd h (splitL_ne r)
      | cons a t => rfl
theorem splitL_sign (c : Nat) (hc : c ≠ 32) : ∀ l : List Nat, splitL (l ++ [c]) = (splitL l).dropLast ++ [(splitL l).getLastD [] ++ [c]]
  | [] => by simp [splitL, hc]
  | d :: r => by
    have ih := splitL_sign c hc r
    rw [List.cons_append, splitL, splitL, ih]
    by_cases hd : d = 32
    · rw [if_pos hd, if_pos hd]
      cases h : splitL r with
      | nil => exact absurd h (splitL_ne r)
      | cons a t => simp
    · rw [if_neg hd, if_neg hd]
      cases h : splitL r with
      | nil => exact absurd h (splitL_ne r)
      | cons a t =>
        cases t with
        | nil => simp
        | cons b t => simp
/-- from sign to sign: the same words -/
def ofSplit (ps : List (List Nat)) : List Str × Bool :=
  (((ps.dropLast.filter fun w => decide (w ≠ [])) ++ (if ps.getLastD [] = [] then [] else [ps.getLastD []])).map mk, decide (ps.getLastD [] ≠ []))
theorem partP_snoc (l : List Nat) (c : Nat) : partP (l ++ [c]) = stP (partP l) c := by unfold partP; rw [List.foldl_append]; rfl
theorem partP_of : ∀ n (l : List Nat), l.length = n → partP l = ofSplit (splitL l) := by
  intro n
  induction n with
  | zero => intro l h; rw [List.length_eq_zero_iff.mp h]; rfl
  | succ n ih =>
    intro l h
    obtain ⟨r, c, rfl⟩ : ∃ r c, l = r ++ [c] := by
      have : l ≠ [] := by intro e; rw [e] at h; simp at h
      exact ⟨_, _, (List.dropLast_concat_getLast this).symm⟩
    rw [partP_snoc, ih r (by simpa using h)]
    have hne := splitL_ne r
    obtain ⟨ini, z, e⟩ : ∃ ini z, splitL r = ini ++ [z] := ⟨_, _, (List.dropLast_concat_getLast hne).symm⟩
    by_cases hc : c = 32
    · subst hc
      rw [splitL_blank, e]
      by_cases hz : z = [] <;> simp [stP, ofSplit, hz, List.getLastD_eq_getLast?, List.filter_append]
    · rw [splitL_sign c hc, e]
      by_cases hz : z = []
      · subst hz
        simp [stP, ofSplit, hc, List.getLastD_eq_getLast?]
        rfl
      · simp [stP, ofSplit, hc, hz, List.getLastD_eq_getLast?]
        rw [mk_append]; rfl
theorem partP_is (x : Str) : (partP x.cps.toList).1 = partB x := by
  rw [partP_of _ _ rfl, partB_is, wordsL]
  have hne := splitL_ne x.cps.toList
  obtain ⟨ini, z, e⟩ : ∃ ini z, splitL x.cps.toList = ini ++ [z] := ⟨_, _, (List.dropLast_concat_getLast hne).symm⟩
  rw [e]
  by_cases hz : z = [] <;> simp [ofSplit, hz, List.getLastD_eq_getLast?, List.filter_append]
theorem alph_128 : ∀ c, alphB c = true → c < 128 ∧ charB c = okB c ∧ startB c = headB c := by
  intro c h
  have hc : c < 128 := by
    unfold alphB at h
    have := List.contains_iff_mem.mp h
    simp only [List.mem_cons, List.not_mem_nil, or_false] at this
    omega
  have key : ∀ c, c < 128 → alphB c = true → charB c = okB c ∧ startB c = headB c := by decide +kernel
  exact ⟨hc, key c hc h⟩
theorem all_congr {p q r : Nat → Bool} {x : Str} (h : x.cps.all r = true) (hpq : ∀ c, r c = true → p c = q c) : x.cps.all p = x.cps.all q := by
  rw [← Array.all_toList, ← Array.all_toList]
  rw [← Array.all_toList, List.all_eq_true] at h
  rw [Bool.eq_iff_iff, List.all_eq_true, List.all_eq_true]
  constructor <;> intro k c hc <;> have := k c hc <;> have e := hpq c (h c hc) <;> simp_all
theorem all_mono {p q : Nat → Bool} {x : Str} (h : x.cps.all p = true) (hpq : ∀ c, p c = true → q c = true) : x.cps.all q = true := by
  rw [← Array.all_toList, List.all_eq_true] at h ⊢
  exact fun c hc => hpq c (h c hc)
theorem alph_all {x : Str} (h : x.cps.all alphB = true) : x.cps.all (· < 128) = true := all_mono h fun c hc => by simpa using (alph_128 c hc).1
theorem word_law {kd y : Str} (h : y.cps.all alphB = true) : wordB kd y = lawWordB y (tokK kd) := by
  unfold wordB lawWordB
  have e1 : y.cps.all charB = y.cps.all okB := all_congr h fun c hc => (alph_128 c hc).2.1
  rcases Nat.eq_zero_or_pos y.cps.size with e | e
  · have : y = Str.empty := by cases y; simp only [Str.empty] at *; simp_all
    subst this
    have q : (Str.empty != Str.empty) = false := by decide
    cases tokK kd <;> simp [nameB, q]
  · have e0 : y.cps.getD 0 0 = y.cps[0] := by simp [e]
    have e2 : startB (y.cps.getD 0 0) = headB (y.cps.getD 0 0) := (alph_128 _ (by rw [e0]; exact all_at (i := 0) (Array.getElem?_eq_getElem e) h)).2.2
    cases hk : tokK kd
    · simp only [Bool.false_eq_true, if_false, nameB, e1, e2, Bool.false_or]
      cases (y != Str.empty) <;> cases headB (y.cps.getD 0 0) <;> cases y.cps.all okB <;> rfl
    · simp only [if_true, e1, Bool.true_or, Bool.and_true]
      cases (y != Str.empty) <;> cases y.cps.all okB <;> rfl
/-- what the law's own text reckons of a value -/
def dueB (kd x : Str) : Str := if (kd == Str.ofString "CDATA") = true then x else Txt.join ⟨#[32]⟩ (partB x)
theorem part_alph {x y : Str} (hx : x.cps.all alphB = true) (h : y ∈ partB x) : y.cps.all alphB = true := all_sub hx (part_sub h)
theorem join_alph {l : List Str} (h : ∀ y ∈ l, y.cps.all alphB = true) : (Str.join ⟨#[32]⟩ l).cps.all alphB = true := by
  induction l with
  | nil => show (Str.empty).cps.all alphB = true; simp [Str.empty]
  | cons a r ih =>
    cases r with
    | nil => exact h a List.mem_cons_self
    | cons b r =>
      show (a ++ ⟨#[32]⟩ ++ Str.join ⟨#[32]⟩ (b :: r)).cps.all alphB = true
      rw [Str.cps_append, Str.cps_append, Array.all_append, Array.all_append, h a List.mem_cons_self, ih fun y hy => h y (List.mem_cons_of_mem _ hy)]
      decide +kernel
theorem due_ok {kd x : Str} (h : ValOk x) : ValOk (dueB kd x) := by
  unfold dueB
  split
  · exact h
  · have e : Txt.join ⟨#[32]⟩ (partB x) = Str.join ⟨#[32]⟩ (partB x) := StrLaws.glued_eq_join _ _
    rw [e]
    refine ⟨join_alph fun y hy => part_alph h.1 hy, ?_⟩
    have hw := part_weight x
    have hx : x.length ≤ 12 := h.2
    show (Str.join ⟨#[32]⟩ (partB x)).length ≤ 12
    cases hp : partB x with
    | nil => exact Nat.zero_le _
    | cons a l =>
      rw [hp] at hw
      rw [len_join_cons]
      have : (⟨#[32]⟩ : Str).length = 1 := rfl
      rw [this]
      simp only [List.length_cons] at hw
      omega
theorem cd_notList {kd : Str} (h : (kd == Str.ofString "CDATA") = true) : listK kd = false := by
  rw [beq_iff_eq] at h; rw [h]; decide +kernel
theorem due_due (kd x : Str) : dueB kd (dueB kd x) = dueB kd x := by
  unfold dueB
  split
  · rfl
  · rw [partB_join]
theorem words_due (kd x : Str) : wordsB kd (dueB kd x) = if listK kd = true then partB x else [dueB kd x] := by
  unfold wordsB
  split
  · rename_i h
    have : (kd == Str.ofString "CDATA") = false := by
      cases q : (kd == Str.ofString "CDATA") with
      | false => rfl
      | true => rw [cd_notList q] at h; cases h
    unfold dueB
    rw [this]; simp only [Bool.false_eq_true, if_false]
    exact partB_join x
  · rfl

-- a source list anywhere in the ledger; the rest of the ledger that is kept
section
variable {prog : Program} {w : World} {A : Around} {E : Value → Shared → Prop} {s : Shared} {h₀ : Heap} {L : Addr} {m : Str → Option Value} {env : Env} {all rest : Led}
theorem comp_listK {ax : Addr} {vs : List Value} {n : Nat} {x : Str} {px : Pos} {elt : Expr} {ifs : List Expr} {scope : Scope} {cl : List (Str × Addr)} {Fin : Shared → List Value → Led → Prop} (J : Led → Nat → (List Value → Led → Prop) → Prop)
    (hh : A.handled = none) (F : Fr h₀ L s.heap m) (N : News h₀ L s.heap all) (hm : (ax, listOf vs.toArray n) ∈ all) (hsub : ∀ p ∈ rest, p ∈ all) (hsz : vs.length ≤ 10000) (hx : scope.names.lookup x = some .local) (hkind : scope.kind = .function) (hJ : ∀ K : List Value → Led → Prop, J ((ax, listOf vs.toArray n) :: rest) 0 K → K [] ((ax, listOf vs.toArray n) :: rest))
    (turn : ∀ i v g, vs[i]? = some v → CTurn prog w A h₀ L m env elt ifs scope cl (LCg.SrcAt h₀ ax vs.toArray) { s with heap := g } (BndN x v) (J ((ax, listOf vs.toArray n) :: rest) i) (J ((ax, listOf vs.toArray n) :: rest) (i + 1)))
    (done : ∀ g, J ((ax, listOf vs.toArray n) :: rest) vs.length fun ys news₁ => Fin { s with heap := g } ys news₁) :
    wpAny (model prog w) A (pyIter (.ref ax)) (fun it s₂ => CompAny prog w A h₀ L m env elt (.Name x px) ifs scope cl Fin it s₂) E s :=
  comp_list J hh F (fun p hp => N p (by rcases List.mem_cons.mp hp with rfl | hp; exact hm; exact hsub p hp)) (.inr ⟨_, List.mem_cons_self, rfl, _, rfl⟩) (by rw [List.size_toArray, sizeLine_eq]; omega) hx hkind hJ (fun i v g hv => turn i v g (by simpa using hv)) (fun g => by rw [List.size_toArray]; exact done g)
theorem iter_listK {ax : Addr} {vs : List Value} {n : Nat} {target : Expr} {body : List Stmt} {Q : Flow → Shared → Prop} (J : Map → Led → Nat → (Map → Led → Prop) → Prop)
    (hh : A.handled = none) (F : Fr h₀ env.locals s.heap m) (N : News h₀ env.locals s.heap all) (hm : (ax, listOf vs.toArray n) ∈ all) (hsub : ∀ p ∈ rest, p ∈ all) (hJ : ∀ K : Map → Led → Prop, J m ((ax, listOf vs.toArray n) :: rest) 0 K → K m ((ax, listOf vs.toArray n) :: rest))
    (turn : ∀ I i v, vs[i]? = some v → J m ((ax, listOf vs.toArray n) :: rest) i fun m₁ news₁ => ∀ oI h tk, LCg.SrcAt h₀ ax vs.toArray news₁ → (∀ p ∈ news₁, p.1 ≠ I) → Fr h₀ env.locals h m₁ → News h₀ env.locals h ((I, oI) :: news₁) →
      wpAny (model prog w) A (assign target env v) (fun _ s' => wpAny (model prog w) A (execs body env) (TurnA h₀ env.locals I oI (LCg.SrcAt h₀ ax vs.toArray) (J m ((ax, listOf vs.toArray n) :: rest) (i + 1)) { s with heap := h, toks := tk } Q) E s') E { s with heap := h, toks := tk })
    (done : J m ((ax, listOf vs.toArray n) :: rest) vs.length fun m₁ news₁ => ∀ h tk, Fr h₀ env.locals h m₁ → News h₀ env.locals h news₁ → Q .next { s with heap := h, toks := tk })
    (ht : ListTarget target := by exact trivial) :
    wpAny (model prog w) A (pyIter (.ref ax)) (fun it s₂ => LoopAny prog w A h₀ env target body Q E it s₂) E s :=
  iter_list J hh F (fun p hp => N p (by rcases List.mem_cons.mp hp with rfl | hp; exact hm; exact hsub p hp)) (.inr ⟨_, List.mem_cons_self, rfl, _, rfl⟩) hJ (fun I i v hv => turn I i v (by simpa using hv)) (by rw [List.size_toArray]; exact done) ht
end
theorem strAtL {l : List (Str × Tok)} {i : Nat} {v : Value} (h : (strValues l)[i]? = some v) : ∃ p, l[i]? = some p ∧ v = .str p.1 p.2 := strAt (by simpa using h)
theorem strValues_len (l : List (Str × Tok)) : (strValues l).length = l.length := by simp [strValues]
theorem take_one {α : Type} {l : List α} {i : Nat} {x : α} (h : l[i]? = some x) : l.take (i + 1) = l.take i ++ [x] := by rw [List.take_add_one, h]; rfl
theorem part_len {x : Str} (h : x.cps.size ≤ 1000) : (partB x).length ≤ 1001 := by
  have := part_weight x
  have e : x.length = x.cps.size := rfl
  omega
theorem map_at {α β : Type} {f : α → β} {l : List α} {l' : List β} {i : Nat} {p : α} (e : l.map f = l') (h : l[i]? = some p) : l'[i]? = some (f p) := by rw [← e, List.getElem?_map, h]; rfl

-- where the ways through a statement meet; who may be the parent
def StopHere (P : Prop) : Prop := P
theorem stopHere {P : Prop} (h : StopHere P) : P := h
def JoinQ (P : Flow → Shared → Prop) : Flow → Shared → Prop := P
theorem join_at {prog : Program} {w : World} {A : Around} {t : Sem Flow} {Q : Flow → Shared → Prop} {E : Value → Shared → Prop} {s : Shared} (P : Flow → Shared → Prop) (h : wpAny (model prog w) A t (JoinQ P) E s) (k : ∀ f s', P f s' → Q f s') : StopHere (wpAny (model prog w) A t Q E s) :=
  wpAny_mono h (fun f s' hp => k f s' hp) (fun _ _ e => e)
def NameQ (h₀ : Heap) (L : Addr) (m : Str → Option Value) (x : Str) (P : Option Value → Led → Prop) (s : Shared) (f : Flow) (s' : Shared) : Prop := f = .next ∧ ∃ h' tk' u news', s' = { s with heap := h', toks := tk' } ∧ Fr h₀ L h' (fun y => if y = x then u else m y) ∧ News h₀ L h' news' ∧ P u news'
theorem join_name {prog : Program} {w : World} {A : Around} {t : Sem Flow} {Q : Flow → Shared → Prop} {E : Value → Shared → Prop} {s : Shared} {h₀ : Heap} {L : Addr} {m : Str → Option Value} (x : Str) (P : Option Value → Led → Prop) (_F : Fr h₀ L s.heap m) (h : wpAny (model prog w) A t (JoinQ (NameQ h₀ L m x P s)) E s)
    (k : ∀ u h' tk' news', Fr h₀ L h' (fun y => if y = x then u else m y) → News h₀ L h' news' → P u news' → Q .next { s with heap := h', toks := tk' }) : StopHere (wpAny (model prog w) A t Q E s) :=
  wpAny_mono h (fun f s' hp => by obtain ⟨rfl, h', tk', u, n, rfl, F, N, hP⟩ := hp; exact k u h' tk' n F N hP) (fun _ _ e => e)
theorem NameQ.intro {h₀ : Heap} {L : Addr} {m m' : Str → Option Value} {x : Str} {P : Option Value → Led → Prop} {s : Shared} {h0 h' : Heap} {tk tk' : Nat} {all news' : Led} {u : Option Value} (F : Fr h₀ L h' m') (N : News h₀ L h' all) (sub : ∀ p ∈ news', p ∈ all) (hm : m' = fun y => if y = x then u else m y) (hP : P u news') : JoinQ (NameQ h₀ L m x P { s with heap := h0, toks := tk }) .next { s with heap := h', toks := tk' } :=
  ⟨rfl, h', tk', u, news', rfl, hm ▸ F, fun p hp => N p (sub p hp), hP⟩
def KeepQ (h₀ : Heap) (L : Addr) (m : Str → Option Value) (n : Led) (s : Shared) (f : Flow) (s' : Shared) : Prop := f = .next ∧ ∃ h' tk', s' = { s with heap := h', toks := tk' } ∧ Fr h₀ L h' m ∧ News h₀ L h' n
theorem join_keep {prog : Program} {w : World} {A : Around} {t : Sem Flow} {Q : Flow → Shared → Prop} {E : Value → Shared → Prop} {s : Shared} {h₀ : Heap} {L : Addr} {m : Str → Option Value} {n : Led} (_F : Fr h₀ L s.heap m) (_N : News h₀ L s.heap n) (h : wpAny (model prog w) A t (JoinQ (KeepQ h₀ L m n s)) E s)
    (k : ∀ h' tk', Fr h₀ L h' m → News h₀ L h' n → Q .next { s with heap := h', toks := tk' }) : StopHere (wpAny (model prog w) A t Q E s) :=
  wpAny_mono h (fun f s' hp => by obtain ⟨rfl, h', tk', rfl, F, N⟩ := hp; exact k h' tk' F N) (fun _ _ e => e)
theorem KeepQ.intro {h₀ : Heap} {L : Addr} {m : Str → Option Value} {s : Shared} {h0 h' : Heap} {tk tk' : Nat} {all n : Led} (F : Fr h₀ L h' m) (N : News h₀ L h' all) (sub : ∀ p ∈ n, p ∈ all) : JoinQ (KeepQ h₀ L m n { s with heap := h0, toks := tk }) .next { s with heap := h', toks := tk' } :=
  ⟨rfl, h', tk', rfl, F, fun p hp => N p (sub p hp)⟩
theorem head_name {h₀ h : Heap} {L a : Addr} {o : Obj} {rest : Led} (_N : News h₀ L h ((a, o) :: rest)) : ∃ d, d = a := ⟨a, rfl⟩
theorem list_name {h₀ h : Heap} {L a : Addr} {v : Array Value} {n : Nat} {rest : Led} (_N : News h₀ L h ((a, listOf v n) :: rest)) : ∃ d k, d = a ∧ k = n := ⟨a, n, rfl, rfl⟩
theorem list_name2 {h₀ h : Heap} {L a b : Addr} {o : Obj} {v : Array Value} {n : Nat} {rest : Led} (_N : News h₀ L h ((b, o) :: (a, listOf v n) :: rest)) : ∃ d k, d = a ∧ k = n := ⟨a, n, rfl, rfl⟩

theorem c_wordsB (w : World) (kd x : Str) (t u : Tok) (news : Led) (hL : ([Str.ofString "IDREFS", Str.ofString "ENTITIES", Str.ofString "NMTOKENS"].any fun x => x == kd) = true) (hx : x.cps.size ≤ 1000) : Con w 2 135 [.str kd u, .str x t] news (fun news' r => ∃ a n ws, ws.map (·.1) = partB x ∧ (∀ p ∈ news, p.1 ≠ a) ∧ r = .ref a ∧ news' = (a, listOf (strValues ws).toArray n) :: news) := by
  have := c_words w kd x t u news hx; rwa [show wordsB kd x = partB x from if_pos hL] at this
theorem c_partedB (w : World) (x : Str) (t : Tok) (news : Led) (hx : x.cps.all (· < 128) = true) (hz : x.cps.size ≤ 1000) : Con w 3 561 [.str x t] news (fun news' r => ∃ a n ws, ws.map (·.1) = partB x ∧ (∀ p ∈ news, p.1 ≠ a) ∧ r = .ref a ∧ news' = (a, listOf (strValues ws).toArray n) :: news) := by
  have := c_parted w x t news hx hz; rwa [partP_is] at this
theorem c_fitsT (w : World) (kd x : Str) (t : Tok) (ra rd ca : Addr) (h1 h2 h3 h4 : Int) (t1 t2 t3 t4 u u3 : Tok) (n n2 : Nat) (news : Led) (hx : x.cps.all (· < 128) = true) (hz : x.cps.size ≤ 1000)
    (hr : (ra, instObj 112 rd) ∈ news)
    (hd1 : (rd, dictOf [⟨h1, .str (Str.ofString "kind") t1, .str kd u⟩, ⟨h2, .str (Str.ofString "choices") t2, .ref ca⟩, ⟨h3, .str (Str.ofString "mode") t3, .str (Str.ofString "implied") u3⟩, ⟨h4, .str (Str.ofString "value") t4, .none⟩] n) ∈ news)
    (hc : (ca, ({ cls := .type "tuple", data := .seq #[] n2 } : Obj)) ∈ news) (hk1 : kd.cps.size ≤ 100) (hf : fitB kd x = true) :
    Con w 7 149 [.ref ra, .str x t] news (fun news' r => news' = news ∧ r = .none) := by
  have := c_fits w kd x t ra rd ca h1 h2 h3 h4 t1 t2 t3 t4 u u3 n n2 news hx hz hr hd1 hc hk1
  simpa [hf] using this
theorem c_fitsF (w : World) (kd x : Str) (t : Tok) (ra rd ca : Addr) (h1 h2 h3 h4 : Int) (t1 t2 t3 t4 u u3 : Tok) (n n2 : Nat) (news : Led) (hx : x.cps.all (· < 128) = true) (hz : x.cps.size ≤ 1000)
    (hr : (ra, instObj 112 rd) ∈ news)
    (hd1 : (rd, dictOf [⟨h1, .str (Str.ofString "kind") t1, .str kd u⟩, ⟨h2, .str (Str.ofString "choices") t2, .ref ca⟩, ⟨h3, .str (Str.ofString "mode") t3, .str (Str.ofString "implied") u3⟩, ⟨h4, .str (Str.ofString "value") t4, .none⟩] n) ∈ news)
    (hc : (ca, ({ cls := .type "tuple", data := .seq #[] n2 } : Obj)) ∈ news) (hk1 : kd.cps.size ≤ 100) (hf : fitB kd x = false) :
    Con w 7 149 [.ref ra, .str x t] news (fun news' r => ∃ y t', news' = news ∧ r = .str y t') := by
  have := c_fits w kd x t ra rd ca h1 h2 h3 h4 t1 t2 t3 t4 u u3 n n2 news hx hz hr hd1 hc hk1
  simp only [hf, Bool.false_eq_true, false_and, false_or, true_and] at this
  unfold Con at this ⊢
  intro loose mean mg mb dp un gd cn cs a ccd cl outer A₀ base h₀ L m s Q E B F X N T hk hdp hun hret
  exact this loose mean mg mb dp un gd cn cs a ccd cl outer A₀ base h₀ L m s Q E B F X N T hk hdp hun fun r n' h' tk' F' N' p => hret r n' h' tk' F' N' (by obtain ⟨e, y, t', e'⟩ := p; exact ⟨y, t', e, e'⟩)
def wrongB (kd : Str) (l : List Str) : List Str := l.filter fun y => !lawWordB y (tokK kd)

theorem le_sum {a : Nat} : ∀ {l : List Nat}, a ∈ l → a ≤ l.sum
  | b :: r, h => by
    rcases List.mem_cons.mp h with rfl | h
    · simp
    · have := le_sum h; simp; omega
theorem plen {ws : List (Str × Tok)} {x : Str} (h : ws.map (·.1) = partB x) (hz : x.cps.size ≤ 1000) : (strValues ws).length ≤ 10000 := by
  have := congrArg List.length h
  rw [List.length_map] at this
  have := part_len hz
  rw [strValues_len]; omega
theorem take_full {ws : List (Str × Tok)} {l : List Str} (h : ws.map (·.1) = l) : l.take (strValues ws).length = l := by
  rw [strValues_len, ← h]; exact List.take_of_length_le (by simp)
theorem list_all_congr {α : Type} {p q : α → Bool} {l : List α} (h : ∀ y ∈ l, p y = q y) : l.all p = l.all q := by
  rw [Bool.eq_iff_iff, List.all_eq_true, List.all_eq_true]
  exact ⟨fun k y hy => by rw [← h y hy]; exact k y hy, fun k y hy => by rw [h y hy]; exact k y hy⟩
theorem all_size {x y : Str} (hz : x.cps.size ≤ 1000) (h : y ∈ partB x) : y.cps.size ≤ 1000 := by
  have hw := part_weight x
  have e : x.length = x.cps.size := rfl
  have hm : y.length ≤ ((partB x).map (·.length)).sum := le_sum (List.mem_map_of_mem h)
  have hl : 0 < (partB x).length := List.length_pos_of_mem h
  have e2 : y.length = y.cps.size := rfl
  omega
theorem wrong_nil {kd : Str} {l : List Str} : decide (wrongB kd l = []) = l.all fun y => lawWordB y (tokK kd) := by
  rw [Bool.eq_iff_iff, decide_eq_true_eq, List.all_eq_true]
  unfold wrongB
  rw [List.filter_eq_nil_iff]
  constructor <;> intro h y hy <;> have := h y hy <;> simp_all
theorem c_normD (w : World) (kd x y : Str) (t u : Tok) (news : Led) (hd : dueB kd x = y) (hx : x.cps.size ≤ 1000) : Con w 2 128 [.str kd u, .str x t] news (fun news' r => ∃ t', news' = news ∧ r = .str y t') := by
  subst hd; exact c_norm w kd x t u news hx
theorem c_wordsD (w : World) (kd x : Str) (l : List Str) (t u : Tok) (news : Led) (hd : wordsB kd x = l) (hx : x.cps.size ≤ 1000) : Con w 2 135 [.str kd u, .str x t] news (fun news' r => ∃ a n ws, ws.map (·.1) = l ∧ (∀ p ∈ news, p.1 ≠ a) ∧ r = .ref a ∧ news' = (a, listOf (strValues ws).toArray n) :: news) := by
  subst hd; exact c_words w kd x t u news hx
def letB (kd : Str) (l : List Str) : Bool := (kd == Str.ofString "CDATA") || (!decide (l = []) && decide (wrongB kd l = []) && !chK kd)
theorem fit_let {kd x : Str} (hv : ValOk x) : fitB kd (dueB kd x) = letB kd (wordsB kd (dueB kd x)) := by
  unfold fitB letB
  rw [wrong_nil]
  have e : (wordsB kd (dueB kd x)).all (wordB kd) = (wordsB kd (dueB kd x)).all fun y => lawWordB y (tokK kd) := list_all_congr fun y hy => word_law (by
    rw [words_due] at hy
    split at hy
    · exact part_alph hv.1 hy
    · rw [List.mem_singleton.mp hy]; exact (due_ok hv).1)
  rw [e]
  cases chK kd <;> rcases (wordsB kd (dueB kd x)) with _ | ⟨a, l⟩ <;> simp [show ∀ (a : Str) (l : List Str), (a :: l != []) = true from fun _ _ => rfl]
section
theorem w16 : True := by
  (k_with "~call ref" => (k_here; (with_reducible show wpAny _ _ (call (Value.ref 554) _) _ _ _); ktr_call (c_value _ _ _ _ (by assumption) (by walk_at "my_off")) ()))
  (k_with "k_room" => ktr_room)
  (k_with "~call ref" => (k_here; (with_reducible show wpAny _ _ (call (Value.ref 561) _) _ _ _); ktf_call (c_partedB _ _ _ _ (by assumption) (by assumption))))
  (k_with "~call ref" => (k_here; (with_reducible show wpAny _ _ (call (Value.ref 128) _) _ _ _); ktf_call (c_normD _ _ _ _ _ _ _ (by with_reducible assumption) (by assumption))))
  (k_with "~call ref" => (k_here; (with_reducible show wpAny _ _ (call (Value.ref 135) _) _ _ _); ktf_call (c_wordsD _ _ _ _ _ _ _ (by with_reducible assumption) (by assumption))))
  (k_with "~call ref" => (k_here; (with_reducible show wpAny _ _ (call (Value.ref 149) _) _ _ _); ktf_call (by first | exact (c_fitsT _ _ _ _ _ _ _ _ _ _ _ _ _ _ _ _ _ _ _ _ (by k_asm) (by k_asm) (by k_mem) (by k_mem) (by k_mem) (by k_asm) (by with_reducible assumption)) | exact (c_fitsF _ _ _ _ _ _ _ _ _ _ _ _ _ _ _ _ _ _ _ _ (by k_asm) (by k_asm) (by k_mem) (by k_mem) (by k_mem) (by k_asm) (by with_reducible assumption)))))
  (k_with "~call builtin:str.join" => (k_here; (with_reducible show wpAny _ _ (call (Value.builtin "str.join") [Value.str _ _, Value.ref _]) _ _ _); k_dflt (refine' SC.join (by exact News.isList (by k_asm) (by k_mem)) (by assumption) (by exact part_ok (by assumption) rfl (by decide)) ?_); intro t9z9 k9z9; (try dsimp only); (try walk_at "my_fold")))
  (k_with "~ite" => first | refine ite_pos (by assumption) ?_ | refine ite_neg (Bool.not_eq_true _ ▸ (by assumption)) ?_ | refine ite_neg (by simp only [bne_self_eq_false, Bool.false_eq_true, not_false_eq_true]) ?_ | refine ite_neg (by (law_clear; simp only [*, decide_true, Bool.not_true, Bool.false_eq_true, not_false_eq_true]; done)) ?_)
  (k_with "~exec If" => ((fail_if_success (with_reducible show wpAny _ _ _ (JoinQ _) _ _)); refine stopHere ?_))
  (k_with "~exec Assign cons IfExp" => ((fail_if_success (with_reducible show wpAny _ _ _ (JoinQ _) _ _)); refine stopHere ?_))
  (k_with "~exec Assign cons BoolOp" => ((fail_if_success (with_reducible show wpAny _ _ _ (JoinQ _) _ _)); refine stopHere ?_))
  trivial
set_option maxHeartbeats 8000000 in
theorem c_kind (w : World) (kd x : Str) (t u : Tok) (news : Led) (hk1 : kd.cps.size ≤ 100) (hv : ValOk x) : Con w 9 571 [.str kd u, .str x t] news (fun news' r => news' = news ∧ r = .bool true) := by
  unfold Con; k_fill; intro loose mean mg mb dp un gd cn cs a ccd cl outer A₀ base h₀ L m s Q E B F X N T hk hdp hun hret; walk_at "my_enterC"
  rename Obj => oc
  rename ∀ p ∈ news, _ < _ => hl0
  obtain ⟨L9, hL, e9⟩ : ∃ z, (∀ p ∈ news, p.1 < z) ∧ z = _ := ⟨_, hl0, rfl⟩
  subst e9
  clear hl0
  have hx := alph_all hv.1
  have hz : x.cps.size ≤ 1000 := by have := hv.2; omega
  have hd := due_ok (kd := kd) hv
  have hd1 := alph_all hd.1
  have hd2 : (dueB kd x).cps.size ≤ 1000 := by have := hd.2; omega
  have hdd := due_due kd x
  have hdx : dueB kd x = dueB kd x := rfl
  k_steps
  (try walk_at "my_fold")
  rename News _ _ _ _ => N1
  rename Fr _ _ _ _ => F1
  rename List (Str × Tok) => ws
  rename List.map _ ws = _ => hws
  have N2 := cb_drop (news := (_, listOf (strValues ws).toArray _) :: (_, oc) :: news) N1 (by walk_at "my_sub")
  obtain ⟨wa, kx, e9, e8⟩ := list_name N2
  subst e9 e8
  refine my_op F1 fun m1 F2 hm => ?_
  have e1 : m1 (Str.ofString "value") = some (.str x t) := (hm _).trans rfl
  have e2 : m1 (Str.ofString "parted") = some (.ref wa) := (hm _).trans rfl
  have e3 : m1 (Str.ofString "is_list") = some (.bool (listK kd)) := (hm _).trans rfl
  clear hm N1 F1
  refine join_name (Str.ofString "due") (fun u n => ∃ t, u = some (.str (dueB kd x) t) ∧ n = (wa, listOf (strValues ws).toArray kx) :: (L9 + 1, oc) :: news) F2 ?_ ?_
  · k_steps
    · exact NameQ.intro (by k_asm) (by k_asm) (by walk_at "my_sub") rfl ⟨_, by rw [dueB, if_pos (by assumption)], rfl⟩
    · exact NameQ.intro (by k_asm) (by k_asm) (by walk_at "my_sub") rfl ⟨_, by rw [dueB, if_neg (by simp only [*, Bool.false_eq_true, not_false_eq_true]), ← hws]; rfl, rfl⟩
  rintro u h3 tk3 n3 F3 N3 ⟨t3, rfl, rfl⟩
  clear N2 F2
  k_steps
  (try walk_at "my_fold")
  refine join_keep (n := (wa, listOf (strValues ws).toArray kx) :: (L9 + 1, oc) :: news) F3 N3 ?_ ?_
  · k_steps
    all_goals exact KeepQ.intro (by k_asm) (by k_asm) (by walk_at "my_sub")
  intro h4 tk4 F4 N4
  clear N3 F3
  k_steps
  (try walk_at "my_fold")
  refine join_keep (n := (wa, listOf (strValues ws).toArray kx) :: (L9 + 1, oc) :: news) F4 N4 ?_ ?_
  · cases hL9 : listK kd
    · have hw1 : wordsB kd x = [x] := if_neg (by rw [hL9]; simp)
      have hw2 : wordsB kd (dueB kd x) = [dueB kd x] := if_neg (by rw [hL9]; simp)
      rw [hL9] at e3
      k_steps
      exact KeepQ.intro (by k_asm) (by k_asm) (by walk_at "my_sub")
    · have hw1 : wordsB kd x = partB x := if_pos hL9
      have hw2 : wordsB kd (dueB kd x) = partB x := by rw [words_due, if_pos hL9]
      rw [hL9] at e3
      k_steps
      exact KeepQ.intro (by k_asm) (by k_asm) (by walk_at "my_sub")
  intro h5 tk5 F5 N5
  clear N4 F4
  k_steps
  (try walk_at "my_fold")
  refine join_name (Str.ofString "some") (fun u n => ∃ a k ws', ws'.map (·.1) = wordsB kd (dueB kd x) ∧ u = some (.ref a) ∧ n = (a, listOf (strValues ws').toArray k) :: (L9 + 1, oc) :: news) F5 ?_ ?_
  · cases hL9 : listK kd
    · rw [hL9] at e3
      k_steps
      exact NameQ.intro (by k_asm) (by k_asm) (by walk_at "my_sub") rfl ⟨_, 0, [(dueB kd x, t3)], (if_neg (by rw [hL9]; simp)).symm, rfl, rfl⟩
    · rw [hL9] at e3
      k_steps
      exact NameQ.intro (by k_asm) (by k_asm) (by walk_at "my_sub") rfl ⟨wa, kx, ws, by rw [hws, words_due, if_pos hL9], rfl, rfl⟩
  rintro u h6 tk6 n6 F6 N6 ⟨sa, ks, wd, hwd, rfl, rfl⟩
  clear N5 F5
  have hwl : (strValues wd).length ≤ 10000 := by
    rw [strValues_len, ← List.length_map (f := (·.1)), hwd, words_due]
    split
    · have := part_len hz; omega
    · simp
  refine my_op F6 fun m2 F7 hm => ?_
  have f1 : m2 (Str.ofString "due") = some (.str (dueB kd x) t3) := (hm _).trans rfl
  have f2 : m2 (Str.ofString "some") = some (.ref sa) := (hm _).trans rfl
  clear hm F6 e1 e2 e3
  k_steps
  (try walk_at "my_fold")
  refine comp_listK (rest := (L9 + 1, oc) :: news) (fun n₀ i K => ∀ vs, vs.map (·.1) = wrongB kd ((wordsB kd (dueB kd x)).take i) → K (strValues vs) n₀) rfl (by k_asm) (by k_asm) (by k_mem) (by walk_at "my_sub") hwl rfl rfl (fun K k => by exact k [] rfl) ?_ ?_
  · intro i v g hv9
    obtain ⟨p, hp, rfl⟩ := strAtL hv9
    have hpx : (wordsB kd (dueB kd x))[i]? = some p.1 := map_at hwd hp
    have hpw := words_mem hd1 hd2 (List.mem_of_getElem? hpx)
    have hpa := hpw.1
    have hpz := hpw.2
    intro I vs hvs oI C oC D h tk m₂ E' S hoC hB F₁ N₁ o3 ne
    dsimp only [BndN] at hB
    dsimp only [TestElt]
    k_steps
    · rename lawWordB _ _ = true => hq
      exact LCg.CompEnd.intro (by k_asm) (by k_asm) _ (by walk_at "my_sub") o3 S (fun K k => k vs (by rw [hvs, take_one hpx]; simp [wrongB, show lawWordB p.1 (tokK kd) = true from hq]))
    · rename lawWordB _ _ = false => hq
      exact LCg.CompEnd.intro (by k_asm) (by k_asm) _ (by walk_at "my_sub") o3 S (fun K k => strValues_append vs [(p.1, _)] ▸ k (vs ++ [(p.1, _)]) (by rw [List.map_append, hvs, take_one hpx]; simp [wrongB, show lawWordB p.1 (tokK kd) = false from hq]))
  · intro g vs hvs D h tk F₁ N₁ o1
    have hvs2 := hvs.trans (congrArg (wrongB kd) (take_full hwd))
    clear hvs
    k_steps
    (try walk_at "my_fold")
    refine join_name (Str.ofString "is_let") (fun u n => u = some (.bool (letB kd (wordsB kd (dueB kd x)))) ∧ n = (L9 + 1, oc) :: news) (by k_asm) ?_ ?_
    · k_steps
      · exact NameQ.intro (by k_asm) (by k_asm) (by walk_at "my_sub") rfl ⟨by unfold letB; simp only [*, Bool.true_or], rfl⟩
      · rename decide _ = true => hq
        rw [hwd] at hq
        exact NameQ.intro (by k_asm) (by k_asm) (by walk_at "my_sub") rfl ⟨by unfold letB; simp only [*]; rfl, rfl⟩
      · rename decide _ = true => hq
        rename decide _ = false => hq2
        rw [hwd] at hq2
        rw [hvs2] at hq
        exact NameQ.intro (by k_asm) (by k_asm) (by walk_at "my_sub") rfl ⟨by unfold letB; simp only [*]; rfl, rfl⟩
      · rename decide _ = false => hq
        rw [hvs2] at hq
        rename (_ == _) = false => hq3
        exact NameQ.intro (by k_asm) (by k_asm) (by walk_at "my_sub") rfl ⟨by unfold letB; rw [hq, hq3, hvs2, hq]; simp, rfl⟩
    rintro u h8 tk8 n8 F8 N8 ⟨rfl, rfl⟩
    have hfl := fit_let (kd := kd) hv
    cases hfb : fitB kd (dueB kd x) <;> rw [hfb] at hfl
    all_goals (
      k_steps
      exact hret _ _ _ _ (by k_asm) (cb_drop (by k_asm) (by walk_at "my_sub")) ⟨rfl, by rw [← hfl]; rfl⟩)
end

-- a comprehension over the keys of a dict
section
open LCg
variable {prog : Program} {w : World} {A : Around} {E : Value → Shared → Prop} {s : Shared} {h₀ : Heap} {L : Addr} {m : Str → Option Value} {env : Env} {news : Led} {K : Type} [DecidableEq K] {knd : KeyKind prog w K}
theorem comp_keys {dx : Addr} {od : Obj} {kvs : List (K × Value)} {x : Str} {px : Pos} {elt : Expr} {ifs : List Expr} {scope : Scope} {cl : List (Str × Addr)} {Fin : Shared → List Value → Led → Prop} (J : Led → Nat → (List Value → Led → Prop) → Prop)
    (hh : A.handled = none) (F : Fr h₀ L s.heap m) (N : News h₀ L s.heap news) (hm : (dx, od) ∈ news) (hd : od.IsDictOf knd kvs) (lo : (dx == sysModules) = false) (hsz : kvs.length ≤ sizeLine) (hx : scope.names.lookup x = some .local) (hkind : scope.kind = .function) (hJ : ∀ K : List Value → Led → Prop, J news 0 K → K [] news)
    (turn : ∀ i k y v g, kvs[i]? = some (k, y) → knd.is k v = true → CTurn prog w A h₀ L m env elt ifs scope cl (fun nw => (dx, od) ∈ nw) { s with heap := g } (BndN x v) (J news i) (J news (i + 1)))
    (done : ∀ g, J news kvs.length fun ys news₁ => Fin { s with heap := g } ys news₁) :
    wpAny (model prog w) A (pyIter (.ref dx)) (fun it s₂ => CompAny prog w A h₀ L m env elt (.Name x px) ifs scope cl Fin it s₂) E s := by
  obtain ⟨ep, ha⟩ := KdkAt.of hd
  have hat := ha.dictAt (N _ hm).1
  have hlt : dx < s.heap.objs.size := Heap.lt_size (N _ hm).1
  have hne : dx ≠ s.heap.objs.size := Nat.ne_of_lt hlt
  refine wpAny_pyIter_dict lo hat ?_
  have up : ∀ (it : Obj) b o, s.heap.get? b = some o → (s.heap.push it).get? b = some o := fun it b o e => Heap.get?_push_of_some _ e
  refine .mk _ _ _ kvs.length _ (fun _ v m₂ => BndN x v m₂) _ (fun nw => (dx, od) ∈ nw) news (J news) (Walks.dictKeys (knd := knd) hh s.heap.objs.size dx hne kvs ep) hsz (fun i h st => by obtain ⟨o, e, _⟩ := st.1; exact ⟨o, e⟩) ?_ (fun _ _ _ _ _ _ q => go_name q) (fun b hb => ?_) (fun i v news₁ C m' h tk Q' E' _ _ _ _ hn _ q => assign_name hx hkind hn q)
    ⟨⟨_, Heap.get?_push_size _ rfl, rfl, rfl⟩, hat.push _⟩ (F.keeps (up _)) (N.grown (up _)) (Nat.ne_of_lt F.ns.lt) (next_is_new F) (fun p hp => Nat.ne_of_lt (Heap.lt_size (N p hp).1)) hm hJ ?_ (done _)
  · rintro i h h' o nw ⟨st, _⟩ e e' _ N' hS
    refine ⟨?_, ha.dictAt (N' _ hS).1⟩
    obtain ⟨o1, e1, r⟩ := st
    rw [e] at e1; cases e1
    exact ⟨o, e', r⟩
  · show b < (s.heap.push _).objs.size
    rw [Heap.size_push]
    rcases List.mem_cons.mp hb with rfl | hb
    · exact Nat.lt_succ_self _
    · rw [List.mem_singleton.mp hb]; exact Nat.lt_succ_of_lt hlt
  · rintro i v _ ⟨k, y, hk, hv⟩
    exact turn i k y v _ hk hv _
end
theorem key_str {prog : Program} {w : World} {k : Str} {v : Value} (h : (PySem.strKind prog w).is k v = true) : ∃ t, v = .str k t := by
  cases v <;> simp [PySem.strKind, Value.isStrOf] at h
  rename_i x t
  exact ⟨t, by rw [h]⟩

-- THE TREE AS IT LIES IN A LEDGER; its readers
/-- what of a node's dict tells nothing: hashes, tokens, ends -/
structure NZ where
  h1 : Int
  h2 : Int
  h3 : Int
  h4 : Int
  h5 : Int
  h6 : Int
  h7 : Int
  h8 : Int
  h9 : Int
  t1 : Tok
  t2 : Tok
  t3 : Tok
  t4 : Tok
  t5 : Tok
  t6 : Tok
  t7 : Tok
  t8 : Tok
  t9 : Tok
  u1 : Tok
  u2 : Tok
  u3 : Tok
  u4 : Tok
  u5 : Tok
  pv : Value
  nk : Value
  n : Nat
  cn : Nat
  an : Nat
structure Nd where
  r : Addr
  d : Addr
  ck : Addr
  ak : Addr
  kind : Str
  name : Str
  val : Str
  kids : List (Nat × Tok)
  attrs : List (Nat × Tok)
  z : NZ
def intVals (l : List (Nat × Tok)) : List Value := l.map fun p => .int ((p.1 : Nat) : Int) p.2
structure NodeIn (led : Led) (nd : Nd) : Prop where
  i : (nd.r, instObj 335 nd.d) ∈ led
  d : (nd.d, dictOf [⟨nd.z.h1, .str (Str.ofString "kind") nd.z.t1, .str nd.kind nd.z.u1⟩, ⟨nd.z.h2, .str (Str.ofString "name") nd.z.t2, .str nd.name nd.z.u2⟩, ⟨nd.z.h3, .str (Str.ofString "uri") nd.z.t3, .str (Str.ofString "") nd.z.u3⟩, ⟨nd.z.h4, .str (Str.ofString "local") nd.z.t4, .str nd.name nd.z.u4⟩, ⟨nd.z.h5, .str (Str.ofString "value") nd.z.t5, .str nd.val nd.z.u5⟩, ⟨nd.z.h6, .str (Str.ofString "parent") nd.z.t6, nd.z.pv⟩, ⟨nd.z.h7, .str (Str.ofString "children") nd.z.t7, .ref nd.ck⟩, ⟨nd.z.h8, .str (Str.ofString "attributes") nd.z.t8, .ref nd.ak⟩, ⟨nd.z.h9, .str (Str.ofString "namespaces") nd.z.t9, nd.z.nk⟩] nd.z.n) ∈ led
  k : (nd.ck, listOf (intVals nd.kids).toArray nd.z.cn) ∈ led
  a : (nd.ak, listOf (intVals nd.attrs).toArray nd.z.an) ∈ led
structure TreeS where
  t : Addr
  td : Addr
  rl : Addr
  nodes : List Nd
  h : Int
  tk : Tok
  n : Nat
  rn : Nat
def refVals (l : List Nd) : List Value := l.map fun nd => Value.ref nd.r
structure TreeIn (led : Led) (T : TreeS) : Prop where
  i : (T.t, instObj 524 T.td) ∈ led
  d : (T.td, dictOf [⟨T.h, .str (Str.ofString "rows") T.tk, .ref T.rl⟩] T.n) ∈ led
  r : (T.rl, listOf (refVals T.nodes).toArray T.rn) ∈ led
  nodes : ∀ nd ∈ T.nodes, NodeIn led nd
theorem NodeIn.mono {a b : Led} {nd : Nd} (hs : ∀ p ∈ a, p ∈ b) (h : NodeIn a nd) : NodeIn b nd := ⟨hs _ h.i, hs _ h.d, hs _ h.k, hs _ h.a⟩
theorem TreeIn.mono {a b : Led} {T : TreeS} (hs : ∀ p ∈ a, p ∈ b) (h : TreeIn a T) : TreeIn b T := ⟨hs _ h.i, hs _ h.d, hs _ h.r, fun nd hm => (h.nodes nd hm).mono hs⟩
theorem refVals_at {l : List Nd} {k : Nat} {nd : Nd} (h : l[k]? = some nd) : (refVals l)[k]? = some (.ref nd.r) := by unfold refVals; rw [List.getElem?_map, h]; rfl
theorem refVals_len (l : List Nd) : (refVals l).length = l.length := by simp [refVals]
theorem at_lt {l : List Nd} {k : Nat} {nd : Nd} (h : l[k]? = some nd) : k < l.length := (List.getElem?_eq_some_iff.mp h).1
def ValT (x : Str) : Prop := x.cps.all alphB = true ∧ x.cps.size ≤ 20
def TOk (T : TreeS) : Prop := T.nodes.length ≤ 100 ∧ ∀ nd ∈ T.nodes, nd.kids.length ≤ 100 ∧ nd.attrs.length ≤ 100 ∧ ValT nd.val
theorem intVals_len (l : List (Nat × Tok)) : (intVals l).length = l.length := by simp [intVals]
theorem w17 : True := by
  k_with_none
  (k_with "~my_fold" => ((fail_if_success (fail_if_success k_fold)); (refine (let qk := _; (?_ : wpAny _ _ _ qk _ _)))))
  (k_with "~my_state" => ((fail_if_success (fail_if_success (conv => arg 6; pattern PySem.Shared.mk _ _ _ _ _))); (refine (let sk := _; (?_ : wpAny _ _ _ _ _ sk)))))
  (k_with "~my_around" => ((try refine (let vk := _; (?_ : wpAny _ _ (execs _ vk) _ _ _))); (refine (let ak := _; (?_ : wpAny _ ak _ _ _ _)))))
  (k_with "~my_enter" => (refine wpAny_call ?_; k_dflt ktr_enter; (try walk_at "my_around")))
  (k_with "~use2" => (
  (first | (refine post00 ?_; intro h9z9 tk9z9 F9z9 N9z9) | (refine post10 ?_; intro x1z9 h9z9 tk9z9 F9z9 N9z9) | (refine post20 ?_; intro x1z9 x2z9 h9z9 tk9z9 F9z9 N9z9) | (refine post21 ?_; intro x1z9 x2z9 q1z9 h9z9 tk9z9 F9z9 N9z9) | (refine post22 ?_; intro x1z9 x2z9 q1z9 q2z9 h9z9 tk9z9 F9z9 N9z9) | (refine post31 ?_; intro x1z9 x2z9 x3z9 q1z9 h9z9 tk9z9 F9z9 N9z9) | (refine post32 ?_; intro x1z9 x2z9 x3z9 q1z9 q2z9 h9z9 tk9z9 F9z9 N9z9) | (refine post33 ?_; intro x1z9 x2z9 x3z9 q1z9 q2z9 q3z9 h9z9 tk9z9 F9z9 N9z9) | (refine post41 ?_; intro x1z9 x2z9 x3z9 x4z9 q1z9 h9z9 tk9z9 F9z9 N9z9))
  (try walk_at "my_fold")
  (try dsimp only)
  (try k_sweep)
  (try walk_at "my_fold")))
  (k_with "~my_tail" => first | assumption | (refine' List.mem_cons_of_mem _ ?_; walk_at "my_tail"))
  (k_with "~my_sub" => first | exact fun _ hpz9 => hpz9 | exact List.forall_mem_nil _ | (refine' List.forall_mem_cons.mpr ⟨?_, ?_⟩; k_mem; walk_at "my_sub") | (intro pz9 hpz9; walk_at "my_tail"))
  (k_with "k_units" => ktr_units)
  (k_with "k_mem" => first | exact List.mem_cons_self | ktr_member | (refine' List.mem_cons_of_mem _ ?_; k_mem))
  (k_with "~my_and" => first | assumption | (refine And.right ?_; walk_at "my_and"))
  (k_with "~my_fresh" => first | assumption | exact ne_of_lts (by assumption) | exact ne_of_allLt (by first | assumption | exact And.right (by assumption) | exact And.right (And.right (by assumption)) | exact And.right (And.right (And.right (by assumption))) | exact And.right (And.right (And.right (And.right (by assumption)))) | exact And.right (And.right (And.right (And.right (And.right (by assumption))))) | exact And.right (And.right (And.right (And.right (And.right (And.right (by assumption)))))) | exact And.right (And.right (And.right (And.right (And.right (And.right (And.right (by assumption))))))) | exact And.right (And.right (And.right (And.right (And.right (And.right (And.right (And.right (by assumption))))))))))
  (k_with "~my_off" => first | assumption | exact List.forall_mem_nil _ | (refine' List.forall_mem_cons.mpr ⟨?_, ?_⟩; (first | k_ne | exact (by assumption : ∀ pz9 ∈ (_ : Led), pz9.1 ≠ _) _ (by k_mem)); walk_at "my_off") | (intro pz9 hpz9; first | exact (by assumption : ∀ pz9 ∈ (_ : Led), pz9.1 ≠ _) pz9 hpz9 | exact (by assumption : ∀ pz9 ∈ (_ : Led), pz9.1 ≠ _) pz9 (by walk_at "my_tail") | (have h9z9 := ltN ((by assumption : ∀ pz9 ∈ (_ : Led), pz9.1 < _) pz9 hpz9); refine neN ?_; omega)))
  (k_with "k_all" => walk_at "my_off")
  (k_with "~my_lt" => first | assumption | exact And.left (by assumption) | exact And.left (And.right (by assumption)) | exact And.left (And.right (And.right (by assumption))) | exact And.left (And.right (And.right (And.right (by assumption)))) | exact And.left (And.right (And.right (And.right (And.right (by assumption))))) | exact And.left (And.right (And.right (And.right (And.right (And.right (by assumption)))))) | exact And.left (And.right (And.right (And.right (And.right (And.right (And.right (by assumption))))))) | exact And.left (And.right (And.right (And.right (And.right (And.right (And.right (And.right (by assumption)))))))) | exact And.left (And.right (And.right (And.right (And.right (And.right (And.right (And.right (And.right (by assumption))))))))) | exact And.left (And.right (And.right (And.right (And.right (And.right (And.right (And.right (And.right (And.right (by assumption)))))))))) | exact And.left (And.right (And.right (And.right (And.right (And.right (And.right (And.right (And.right (And.right (And.right (by assumption))))))))))) | exact And.left (And.right (And.right (And.right (And.right (And.right (And.right (And.right (And.right (And.right (And.right (And.right (by assumption)))))))))))) | exact And.left (And.right (And.right (And.right (And.right (And.right (And.right (And.right (And.right (And.right (And.right (And.right (And.right (by assumption))))))))))))) | exact And.left (And.right (And.right (And.right (And.right (And.right (And.right (And.right (And.right (And.right (And.right (And.right (And.right (And.right (by assumption)))))))))))))) | exact And.left (And.right (And.right (And.right (And.right (And.right (And.right (And.right (And.right (And.right (And.right (And.right (And.right (And.right (And.right (by assumption))))))))))))))) | exact And.left (And.right (And.right (And.right (And.right (And.right (And.right (And.right (And.right (And.right (And.right (And.right (And.right (And.right (And.right (And.right (by assumption)))))))))))))))))
  (k_with "k_ne" => (refine neN ?_; (try dsimp only); first | assumption | exact Ne.symm (by assumption) | (refine Nat.ne_of_lt ?_; walk_at "my_lt") | (refine Nat.ne_of_gt ?_; walk_at "my_lt") | omega))
  (k_with "~my_for" => (k_here; (rename Fr _ _ _ _ => lF'z9); (with_unfolding_all refine' for_any lF'z9 ?_); (try walk_at "my_fold"); walk_say "MY FOR"))
  (k_with "~my_look" => first | with_reducible assumption | rfl | assumption)
  (k_with "~exec For Name Name cons nil" => walk_at "my_for")
  (k_with "~exec For Name Call cons nil" => walk_at "my_for")
  (k_with "~exec For Name List cons nil" => walk_at "my_for")
  (k_with "~exec For Tuple Name cons nil" => walk_at "my_for")
  (k_with "~exec For Tuple Call cons nil" => walk_at "my_for")
  (k_with "~exec For Name BinOp cons nil" => walk_at "my_for")
  (k_with "~TurnA" => (dsimp only [TurnA]))
  (k_with "~eval ListComp" => (k_here; k_dflt (refine' comp_any (by k_asm) (by with_unfolding_all rfl) (by decide) (by rfl) (by decide) (by decide) ?_); (try k_fold); walk_say "MY COMP"))
  (k_with "~exec Assign cons ListComp" => (k_here; k_dflt (refine' comp_assign (by k_asm) (by rfl) (by with_unfolding_all rfl) (by with_unfolding_all rfl) (by decide) (by rfl) (by decide) (by rfl) (by rfl) (by decide) ?_); (try k_fold); walk_say "MY COMP"))
  (k_with "~TestElt" => (dsimp only [TestElt]; (try k_fold)))
  (k_with "~compareOp In str ref" => (k_here; k_dflt (refine' in_tuple_strs (tupK (by k_in) (by k_is)) (by repeat constructor) ?_)))
  (k_with "~compareOp In str ref" => (k_here; k_dflt (refine' in_tuple_strs (News.isTup (by k_asm) (by k_mem)) (by repeat constructor) ?_)))
  (k_with "~my_strs" => first | exact StrsIn.of _ | exact StrsIn.nil | exact StrsIn.one _ _)
  (k_with "~compareOp Eq ref ref" => (k_here; k_dflt (refine' eq_strs (by k_asm) (by k_mem) (by k_mem) (by walk_at "my_strs") (by walk_at "my_strs") (by k_units) ?_)))
  (k_with "~compareOp NotEq ref ref" => (k_here; k_dflt (refine' ne_strs (by k_asm) (by k_mem) (by k_mem) (by walk_at "my_strs") (by walk_at "my_strs") (by k_units) ?_)))
  (k_with "~my_size" => (simp only [List.size_toArray, strValues, List.length_map, Array.length_toList, List.length_append, List.length_dropLast, List.length_cons, List.length_nil, sizeLine_eq]; omega))
  (k_with "~subscriptTail Name Slice ref ref" => (k_here; (with_reducible show wpAny _ _ (subscriptTail _ (PySem.Expr.Slice none _ none _) (Value.ref _) (Value.ref _)) _ _ _); k_dflt (refine' kms_slice_lit (by k_asm) (by k_asm) (by exact News.isList (by k_asm) (by k_mem)) (by kmk_part) (by kmk_part) (by exact pick_dropLast _) ?_ (by with_unfolding_all rfl) (by kmk_pure) (by walk_at "my_size")); intro D'z9 h'z9 F'z9 N'z9 l1z9; (try k_lt l1z9); (try k_sweep)))
  (k_with "~subscriptTail Name UnaryOp ref int" => (k_here; (with_reducible show wpAny _ _ (subscriptTail _ _ (Value.ref _) (Value.int _ _)) _ _ _); k_dflt (refine' item_last (by exact News.isList (by k_asm) (by k_mem)) (by assumption) ?_)))
  (k_with "~binaryOp Add ref ref" => (k_here; k_dflt (refine' kmk_add_lit (by k_asm) (by k_asm) (by exact News.isList (by k_asm) (by k_mem)) (by exact News.isList (by k_asm) (by k_mem)) (by first | exact add_one _ _ _ | exact add_two _ _) ?_ (by walk_at "my_size")); intro D'z9 h'z9 F'z9 N'z9 l1z9; (try k_lt l1z9); (try k_sweep)))
  (k_with "~call ref" => (k_here; (with_reducible show wpAny _ _ (call (Value.ref 52) _) _ _ _); ktf_call (c_small _ _ _ _)))
  (k_with "~my_signs" => (law_clear; simp only [s_a, s_z, s_A, s_Z, s_0, s_9, lt1, str1_eq, e_us, e_co, e_mi, e_do, smallB_iff, startB_iff, charB_iff, ← decide_not, decide_eq_decide, decide_eq_true_eq, decide_eq_false_iff_not, decide_eq_true_eq, eq_comm (a := true), Bool.not_eq_true, Bool.not_eq_false] at *; omega))
  (k_with "~call ref" => (k_here; (with_reducible show wpAny _ _ (call (Value.ref 59) _) _ _ _); ktf_call (c_start _ _ _ _ (by assumption))))
  (k_with "~call ref" => (k_here; (with_reducible show wpAny _ _ (call (Value.ref 66) _) _ _ _); ktf_call (c_char _ _ _ _ (by assumption))))
  (k_with "~call ref" => (k_here; (with_reducible show wpAny _ _ (call (Value.ref 73) _) _ _ _); ktf_call (c_nmtoken _ _ _ _ (by assumption))))
  (k_with "~call ref" => (k_here; (with_reducible show wpAny _ _ (call (Value.ref 80) _) _ _ _); ktf_call (c_name _ _ _ _ (by assumption))))
  (k_with "~call ref" => (k_here; (with_reducible show wpAny _ _ (call (Value.ref 121) _) _ _ _); ktf_call (c_blank _ _ _ _ (by assumption))))
  (k_with "~call ref" => (k_here; (with_reducible show wpAny _ _ (call (Value.ref 128) _) _ _ _); ktf_call (c_norm _ _ _ _ _ _ (by assumption))))
  (k_with "~call ref" => (k_here; (with_reducible show wpAny _ _ (call (Value.ref 135) _) _ _ _); ktf_call (c_words _ _ _ _ _ _ (by assumption))))
  (k_with "~call ref" => (k_here; (with_reducible show wpAny _ _ (call (Value.ref 142) _) _ _ _); ktf_call (c_isword _ _ _ _ _ _ (by assumption))))
  (k_with "~call ref" => (k_here; (with_reducible show wpAny _ _ (call (Value.ref 149) _) _ _ _); ktf_call (c_fits _ _ _ _ _ _ _ _ _ _ _ _ _ _ _ _ _ _ _ _ (by assumption) (by assumption) (by k_mem) (by k_mem) (by k_mem) (by assumption))))
  (k_with "~call ref" => (k_here; (with_reducible show wpAny _ _ (call (Value.ref 566) _) _ _ _); ktf_call (c_lawword _ _ _ _ _ (by assumption) (by assumption))))
  (k_with "~call ref" => (k_here; (with_reducible show wpAny _ _ (call (Value.ref 561) _) _ _ _); ktf_call (c_parted _ _ _ _ (by assumption) (by assumption))))
  (k_with "~call builtin:len" => (k_here; (with_reducible show wpAny _ _ (call (Value.builtin _) [Value.ref _]) _ _ _); k_dflt (refine' len_at (by exact News.isList (by k_asm) (by k_mem)) (by first | omega | ((simp only [List.length_cons, List.length_nil, List.length_append, List.length_map, strValues]); omega)) ?_)))
  (k_with "~my_pick" => first | exact Pick.head | (refine' Pick.tail (by walk_at "my_pick")))
  (k_with "~call ref" => (k_here; (with_reducible show wpAny _ _ (call (Value.ref 542) _) _ _ _); ktr_call (c_take _ _ _ _ _ _ (by assumption) (by first | assumption | decide) (by first | assumption | decide) (by walk_at "my_off")) ()))
  (k_with "~call ref" => (k_here; (with_reducible show wpAny _ _ (call (Value.ref 549) _) _ _ _); ktr_call (c_one _ _ _ _ _ _ _ (by assumption) (by k_mem) (by first | assumption | exact Nat.le_of_ble_eq_true rfl) (by first | assumption | exact Nat.le_of_ble_eq_true rfl) (by walk_at "my_off")) ()))
  (k_with "~call ref" => (k_here; (with_reducible show wpAny _ _ (call (Value.ref 554) _) _ _ _); ktr_call (c_value _ _ _ _ (by assumption) (by walk_at "my_off")) ()))
  (k_with "~call ref" => (k_here; (with_reducible show wpAny _ _ (call (Value.ref 571) _) _ _ _); ktf_call (c_kind _ _ _ _ _ _ (by first | assumption | decide +kernel) (by k_asm))))
  (k_with "~my_tree" => first | assumption | (refine TreeIn.mono ?_ (by assumption); walk_at "my_sub"))
  trivial
set_option maxHeartbeats 4000000 in
theorem c_row (w : World) (T : TreeS) (nd : Nd) (k : Nat) (tk : Tok) (news : Led) (hT : TreeIn news T) (hn : T.nodes[k]? = some nd) (hz : TOk T) :
    Con w 1 367 [.ref T.t, .int ((k : Nat) : Int) tk] news (fun news' r => news' = news ∧ r = .ref nd.r) := by
  have g1 := hT.i
  have g2 := hT.d
  have g3 := hT.r
  unfold Con; k_fill; intro loose mean mg mb dp un gd cn cs a ccd cl outer A₀ base h₀ L m s Q E B F X N Tp hk hdp hun hret; walk_at "my_enter"
  have hlen := refVals_len T.nodes
  have hlt := at_lt hn
  have hz1 := hz.1
  k_steps
  (try walk_at "my_fold")
  refine item_at (News.isList (by k_asm) (by k_mem)) (by omega) (by omega) (by simpa using refVals_at hn) ?_
  k_steps
  exact hret _ _ _ _ (by k_asm) (by k_asm) ⟨rfl, rfl⟩
theorem w18 : True := by
  (k_with "~call ref" => (k_here; (with_reducible show wpAny _ _ (call (Value.ref 367) _) _ _ _); ktf_call (c_row _ _ _ _ _ _ (by walk_at "my_tree") (by assumption) (by assumption))))
  trivial
set_option maxHeartbeats 4000000 in
theorem c_tkind (w : World) (T : TreeS) (nd : Nd) (k : Nat) (tk : Tok) (news : Led) (hT : TreeIn news T) (hn : T.nodes[k]? = some nd) (hz : TOk T) :
    Con w 3 444 [.ref T.t, .int ((k : Nat) : Int) tk] news (fun news' r => ∃ t, news' = news ∧ r = .str nd.kind t) := by
  have hN := hT.nodes nd (List.mem_of_getElem? hn)
  have g1 := hT.i
  have g2 := hT.d
  have e1 := hN.i
  have e2 := hN.d
  have e3 := hN.k
  have e4 := hN.a
  unfold Con; k_fill; intro loose mean mg mb dp un gd cn cs a ccd cl outer A₀ base h₀ L m s Q E B F X N Tp hk hdp hun hret; walk_at "my_enter"
  k_steps
  exact hret _ _ _ _ (by k_asm) (by k_asm) ⟨_, rfl, rfl⟩
theorem w19 : True := by
  (k_with "~call ref" => (k_here; (with_reducible show wpAny _ _ (call (Value.ref 444) _) _ _ _); ktf_call (c_tkind _ _ _ _ _ _ (by walk_at "my_tree") (by assumption) (by assumption))))
  trivial
set_option maxHeartbeats 4000000 in
theorem c_tname (w : World) (T : TreeS) (nd : Nd) (k : Nat) (tk : Tok) (news : Led) (hT : TreeIn news T) (hn : T.nodes[k]? = some nd) (hz : TOk T) :
    Con w 3 451 [.ref T.t, .int ((k : Nat) : Int) tk] news (fun news' r => ∃ t, news' = news ∧ r = .str nd.name t) := by
  have hN := hT.nodes nd (List.mem_of_getElem? hn)
  have g1 := hT.i
  have g2 := hT.d
  have e1 := hN.i
  have e2 := hN.d
  have e3 := hN.k
  have e4 := hN.a
  unfold Con; k_fill; intro loose mean mg mb dp un gd cn cs a ccd cl outer A₀ base h₀ L m s Q E B F X N Tp hk hdp hun hret; walk_at "my_enter"
  k_steps
  exact hret _ _ _ _ (by k_asm) (by k_asm) ⟨_, rfl, rfl⟩
theorem w20 : True := by
  (k_with "~call ref" => (k_here; (with_reducible show wpAny _ _ (call (Value.ref 451) _) _ _ _); ktf_call (c_tname _ _ _ _ _ _ (by walk_at "my_tree") (by assumption) (by assumption))))
  trivial
set_option maxHeartbeats 4000000 in
theorem c_tvalue (w : World) (T : TreeS) (nd : Nd) (k : Nat) (tk : Tok) (news : Led) (hT : TreeIn news T) (hn : T.nodes[k]? = some nd) (hz : TOk T) :
    Con w 3 472 [.ref T.t, .int ((k : Nat) : Int) tk] news (fun news' r => ∃ t, news' = news ∧ r = .str nd.val t) := by
  have hN := hT.nodes nd (List.mem_of_getElem? hn)
  have g1 := hT.i
  have g2 := hT.d
  have e1 := hN.i
  have e2 := hN.d
  have e3 := hN.k
  have e4 := hN.a
  unfold Con; k_fill; intro loose mean mg mb dp un gd cn cs a ccd cl outer A₀ base h₀ L m s Q E B F X N Tp hk hdp hun hret; walk_at "my_enter"
  k_steps
  exact hret _ _ _ _ (by k_asm) (by k_asm) ⟨_, rfl, rfl⟩
section
theorem w21 : True := by
  (k_with "~call ref" => (k_here; (with_reducible show wpAny _ _ (call (Value.ref 472) _) _ _ _); ktf_call (c_tvalue _ _ _ _ _ _ (by walk_at "my_tree") (by assumption) (by assumption))))
  (k_with "~call type:list" => (k_here; (with_reducible show wpAny _ _ (call (Value.type _) [Value.ref _]) _ _ _); k_dflt (refine' list_copyK (by k_asm) (by k_asm) (by exact News.isList (by k_asm) (by k_mem)) ?_ (by assumption)); intro D'z9 c'z9 h'z9 F'z9 N'z9 l1z9; (try k_lt l1z9); (try k_sweep)))
  trivial
set_option maxHeartbeats 4000000 in
theorem c_children (w : World) (T : TreeS) (nd : Nd) (k : Nat) (tk : Tok) (news : Led) (hT : TreeIn news T) (hn : T.nodes[k]? = some nd) (hz : TOk T) :
    Con w 3 486 [.ref T.t, .int ((k : Nat) : Int) tk] news (fun news' r => ∃ a n, (∀ p ∈ news, p.1 ≠ a) ∧ r = .ref a ∧ news' = (a, listOf (intVals nd.kids).toArray n) :: news) := by
  have hsz : (intVals nd.kids).toArray.size ≤ sizeLine := by
    have := hz.2 nd (List.mem_of_getElem? hn)
    rw [List.size_toArray, intVals_len, sizeLine_eq]; omega
  have hN := hT.nodes nd (List.mem_of_getElem? hn)
  have g1 := hT.i
  have g2 := hT.d
  have e1 := hN.i
  have e2 := hN.d
  have e3 := hN.k
  have e4 := hN.a
  unfold Con; k_fill; intro loose mean mg mb dp un gd cn cs a ccd cl outer A₀ base h₀ L m s Q E B F X N Tp hk hdp hun hret; walk_at "my_enter"
  k_steps
  exact hret _ _ _ _ (by k_asm) (by k_asm) ⟨_, _, by walk_at "my_fresh", rfl, rfl⟩
set_option maxHeartbeats 4000000 in
theorem c_attributes (w : World) (T : TreeS) (nd : Nd) (k : Nat) (tk : Tok) (news : Led) (hT : TreeIn news T) (hn : T.nodes[k]? = some nd) (hz : TOk T) :
    Con w 3 493 [.ref T.t, .int ((k : Nat) : Int) tk] news (fun news' r => ∃ a n, (∀ p ∈ news, p.1 ≠ a) ∧ r = .ref a ∧ news' = (a, listOf (intVals nd.attrs).toArray n) :: news) := by
  have hsz : (intVals nd.attrs).toArray.size ≤ sizeLine := by
    have := hz.2 nd (List.mem_of_getElem? hn)
    rw [List.size_toArray, intVals_len, sizeLine_eq]; omega
  have hN := hT.nodes nd (List.mem_of_getElem? hn)
  have g1 := hT.i
  have g2 := hT.d
  have e1 := hN.i
  have e2 := hN.d
  have e3 := hN.k
  have e4 := hN.a
  unfold Con; k_fill; intro loose mean mg mb dp un gd cn cs a ccd cl outer A₀ base h₀ L m s Q E B F X N Tp hk hdp hun hret; walk_at "my_enter"
  k_steps
  exact hret _ _ _ _ (by k_asm) (by k_asm) ⟨_, _, by walk_at "my_fresh", rfl, rfl⟩
end
theorem c_tnameX (w : World) (T : TreeS) (nd : Nd) (x : Str) (k : Nat) (tk : Tok) (news : Led) (hT : TreeIn news T) (hn : T.nodes[k]? = some nd) (hz : TOk T) (hx : nd.name = x) :
    Con w 3 451 [.ref T.t, .int ((k : Nat) : Int) tk] news (fun news' r => ∃ t, news' = news ∧ r = .str x t) := by
  subst hx; exact c_tname w T nd k tk news hT hn hz

-- LISTS OF INTS, a while by an invariant, lists that are turned
theorem intVals_snoc (l : List (Nat × Tok)) (p : Nat × Tok) : intVals (l ++ [p]) = intVals l ++ [.int ((p.1 : Nat) : Int) p.2] := by simp [intVals]
theorem intVals_append (a b : List (Nat × Tok)) : intVals (a ++ b) = intVals a ++ intVals b := by simp [intVals]
theorem intVals_reverse (a : List (Nat × Tok)) : (intVals a).reverse = intVals a.reverse := by simp [intVals]
section
variable {prog : Program} {w : World} {A : Around} {E : Value → Shared → Prop} {s : Shared} {h₀ : Heap} {L D b : Addr} {m : Str → Option Value} {env : Env} {news news' : Led} {vs us : List Value} {n n2 : Nat}
inductive IntsIn : List Value → List Nat → Prop
  | nil : IntsIn [] []
  | of (l : List (Nat × Tok)) : IntsIn (intVals l) (l.map (·.1))
  | snoc (l : List (Nat × Tok)) (k : Nat) (t : Tok) : IntsIn (intVals l ++ [.int ((k : Nat) : Int) t]) (l.map (·.1) ++ [k])
def EInt (v : Value) (x : Nat) : Prop := ∃ t, v = .int ((x : Nat) : Int) t
theorem Encs.ints (l : List (Nat × Tok)) : Encs EInt (intVals l) (l.map (·.1)) := by
  refine ⟨by simp [intVals], fun i v x h1 h2 => ?_⟩
  simp only [intVals, List.getElem?_map] at h1 h2
  cases e : l[i]? with
  | none => rw [e] at h1; cases h1
  | some p => rw [e] at h1 h2; exact ⟨p.2, by rw [← Option.some.inj h1, ← Option.some.inj h2]⟩
theorem IntsIn.enc {vs : List Value} {xs : List Nat} (h : IntsIn vs xs) : Encs EInt vs xs := by
  cases h with
  | nil => exact Encs.nil
  | of l => exact Encs.ints l
  | snoc l k t => exact Encs.snoc (Encs.ints l) ⟨t, rfl⟩
theorem eqAt_int {A : Around} (v u : Value) (x y : Nat) (h1 : EInt v x) (h2 : EInt u y) : SeqAt.EqAt A s v u (decide (x = y)) := by
  obtain ⟨t, rfl⟩ := h1
  obtain ⟨t', rfl⟩ := h2
  have := SeqAt.EqAt.int_int (A := A) (s := s) ((x : Nat) : Int) t ((y : Nat) : Int) t'
  rwa [show (((x : Nat) : Int) == ((y : Nat) : Int)) = decide (x = y) from by rw [Bool.eq_iff_iff]; simp; omega] at this
theorem eq_ints {a b : Addr} {vs us : List Value} {n n' : Nat} {xs ys : List Nat} {Q : Value → Shared → Prop} (N : News h₀ L s.heap news) (ma : (a, listOf vs.toArray n) ∈ news) (mb : (b, listOf us.toArray n') ∈ news) (hi : IntsIn vs xs) (hj : IntsIn us ys) (hu : A.units < cLine)
    (h : Q (.bool (decide (xs = ys))) s) : wpAny (model prog w) A (compareOp .Eq (.ref a) (.ref b)) Q E s := eq_encs (News.isList N ma) (News.isList N mb) hi.enc hj.enc eqAt_int hu h
theorem ne_ints {a b : Addr} {vs us : List Value} {n n' : Nat} {xs ys : List Nat} {Q : Value → Shared → Prop} (N : News h₀ L s.heap news) (ma : (a, listOf vs.toArray n) ∈ news) (mb : (b, listOf us.toArray n') ∈ news) (hi : IntsIn vs xs) (hj : IntsIn us ys) (hu : A.units < cLine)
    (h : Q (.bool (!decide (xs = ys))) s) : wpAny (model prog w) A (compareOp .NotEq (.ref a) (.ref b)) Q E s := ne_encs (News.isList N ma) (News.isList N mb) hi.enc hj.enc eqAt_int hu h
theorem append_my {x : Value} {Q : Value → Shared → Prop} (F : Fr h₀ L s.heap m) (N : News h₀ L s.heap news) (U : Upd D (listOf vs.toArray n) (listOf (vs ++ [x]).toArray (n + 1)) news news') (hz : vs.length ≤ sizeLine)
    (h : ∀ h', Fr h₀ L h' m → News h₀ L h' news' → Q .none { s with heap := h' }) : wpAny (model prog w) A (call (.builtin "list.append") [.ref D, x]) Q E s :=
  append_K F N (by rw [← List.push_toArray] at U; exact U) h (by rw [List.size_toArray]; exact hz)
theorem pop_my {x : Value} {Q : Value → Shared → Prop} (F : Fr h₀ L s.heap m) (N : News h₀ L s.heap news) (U : Upd D (listOf (vs ++ [x]).toArray n) (listOf vs.toArray (n + 1)) news news') (hz : (vs ++ [x]).length ≤ sizeLine)
    (h : ∀ h', Fr h₀ L h' m → News h₀ L h' news' → Q x { s with heap := h' }) : wpAny (model prog w) A (call (.builtin "list.pop") [.ref D]) Q E s :=
  kl_pop F N (by simpa using kpa_last x vs) U (by simpa using hz) h
theorem extend_my {Q : Value → Shared → Prop} {nw : Nat → Led} (F : Fr h₀ L s.heap m) (N : News h₀ L s.heap news) (hb : (b, listOf us.toArray n2) ∈ news) (U : ∀ k, Upd D (listOf vs.toArray n) (listOf (vs ++ us).toArray k) news (nw k)) (hz : vs.length + us.length ≤ 100000)
    (h : ∀ k h', Fr h₀ L h' m → News h₀ L h' (nw k) → Q .none { s with heap := h' }) : wpAny (model prog w) A (call (.builtin "list.extend") [.ref D, .ref b]) Q E s := by
  have hd : ¬(!(vs.toArray).isEmpty && Builtin.List.listTooLong (vs.toArray.size + us.toArray.size)) = true := by
    have : Builtin.List.listTooLong (vs.toArray.size + us.toArray.size) = false := by
      unfold Builtin.List.listTooLong
      rw [List.size_toArray, List.size_toArray, sizeLine_eq, decide_eq_false_iff_not]; omega
    rw [this, Bool.and_false]; exact Bool.false_ne_true
  cases us with
  | nil =>
    have U' := U n
    rw [List.append_nil] at U'
    exact kxn_extend F N hb rfl U' hd (by rw [sizeLine_eq]; simp at hz ⊢; omega) (by rw [List.size_toArray, List.size_toArray, sizeLine_eq]; omega) fun h' F' N' => h n h' F' N'
  | cons u us =>
    exact kl_extend F N hb (by simp) (by simp) (U (n + 1)) hd (by rw [sizeLine_eq]; simp at hz ⊢; omega) (by rw [List.size_toArray, List.size_toArray, sizeLine_eq]; omega) fun h' F' N' => h (n + 1) h' F' N'
theorem rev_my {l : Addr} {value slice : PySem.Expr} {hp : Heap} {g : Array GenState} {d : Drawn} {tk : Nat} {o : OsState} {vk : Value} {ops : List Value} {Q : Value → Shared → Prop} (F : Fr h₀ L hp m) (N : News h₀ L hp news) (hl : hp.IsList l vs.toArray) (pk : IsPart vk (some (-1)))
    (hs : subscripted slice false (.ref l) (.ref hp.objs.size) = operate ops (getItem (.ref l) (.ref hp.objs.size))) (ht : ∀ r, letTemporaryGo value (.ref l) r = pure ()) (hz : vs.length ≤ sizeLine)
    (h : ∀ D h', Fr h₀ L h' m → News h₀ L h' ((D, listOf vs.reverse.toArray 0) :: news) → (∀ p ∈ news, p.1 < D) → Q (.ref D) { heap := h', gens := g, drawn := d, toks := tk, os := o }) :
    wpAny (model prog w) A (subscriptTail value slice (.ref l) (.ref hp.objs.size)) Q E { heap := hp.push { cls := .type "slice", data := .fields #[.none, .none, vk] }, gens := g, drawn := d, toks := tk, os := o } :=
  krv_lit (s := ⟨hp, g, d, tk, o⟩) F N hl pk (by simp) h hs ht (by rw [List.size_toArray]; exact hz)
inductive WhileAny (prog : Program) (w : World) (A : Around) (h₀ : Heap) (env : Env) (test : PySem.Expr) (body : List Stmt) (Q : Flow → Shared → Prop) (E : Value → Shared → Prop) (s : Shared) : Prop
  | mk (m : Map) (news : Led) (J : (Nat → Map → Led → Prop) → Prop) (n₀ : Nat) (F : Fr h₀ env.locals s.heap m) (N : News h₀ env.locals s.heap news) (hJ : ∀ K : Nat → Map → Led → Prop, J K → K n₀ m news)
    (turn : J fun n m₁ news₁ => ∀ h₁ tk₁, Fr h₀ env.locals h₁ m₁ → News h₀ env.locals h₁ news₁ →
      wpAny (model prog w) A (isTrue test env (eval test env)) (fun b s₂ => if b = true then wpAny (model prog w) A (execs body env) (WhileStep2 h₀ env.locals s (fun n m₁ news₁ => ∀ K : Nat → Map → Led → Prop, J K → K n m₁ news₁) Q n) E s₂ else Q .next s₂) E { s with heap := h₁, toks := tk₁ }) : WhileAny prog w A h₀ env test body Q E s
theorem WhileAny.start {test : PySem.Expr} {body : List Stmt} {Q : Flow → Shared → Prop} {n₀ : Nat} (J : Map → (Nat → Map → Led → Prop) → Prop) (F : Fr h₀ env.locals s.heap m) (N : News h₀ env.locals s.heap news) (hJ : ∀ K : Nat → Map → Led → Prop, J m K → K n₀ m news)
    (turn : J m fun n m₁ news₁ => ∀ h₁ tk₁, Fr h₀ env.locals h₁ m₁ → News h₀ env.locals h₁ news₁ →
      wpAny (model prog w) A (isTrue test env (eval test env)) (fun b s₂ => if b = true then wpAny (model prog w) A (execs body env) (WhileStep2 h₀ env.locals s (fun n m₁ news₁ => ∀ K : Nat → Map → Led → Prop, J m K → K n m₁ news₁) Q n) E s₂ else Q .next s₂) E { s with heap := h₁, toks := tk₁ }) : WhileAny prog w A h₀ env test body Q E s := .mk m news (J m) n₀ F N hJ turn
theorem while_any {test : PySem.Expr} {body : List Stmt} {pos : Pos} {Q : Flow → Shared → Prop} (_F : Fr h₀ env.locals s.heap m) (h : WhileAny prog w A h₀ env test body Q E s)
    (hE : PassesOwn (model prog w) A env E := by passes_own) : wpAny (model prog w) A (exec (.While test body [] pos) env) Q E s := by
  cases h with
  | mk m news J n₀ F N hJ turn => exact While_inv2 (fun n m₁ news₁ => ∀ K : Nat → Map → Led → Prop, J K → K n m₁ news₁) F N hJ (fun n m₁ news₁ h₁ tk₁ F₁ N₁ k => k _ turn h₁ tk₁ F₁ N₁) hE
theorem WhileStep2.end {J : (Nat → Map → Led → Prop) → Prop} {Q : Flow → Shared → Prop} {k k' tk tk' : Nat} {hp h' : Heap} {m' : Map} {all news' : Led} (F : Fr h₀ L h' m') (N : News h₀ L h' all) (sub : ∀ p ∈ news', p ∈ all) (hk : k' < k) (hJ : ∀ K : Nat → Map → Led → Prop, J K → K k' m' news') :
    WhileStep2 h₀ L { s with heap := hp, toks := tk } (fun n m₁ news₁ => ∀ K : Nat → Map → Led → Prop, J K → K n m₁ news₁) Q k .next { s with heap := h', toks := tk' } := ⟨h', tk', m', news', k', rfl, F, fun p hp => N p (sub p hp), hk, hJ⟩
end
theorem ne_of_mem {l : Led} {a b : Addr} {o : Obj} (h : ∀ p ∈ l, p.1 ≠ a) (hm : (b, o) ∈ l) : @Ne Nat a b := fun e => h _ hm e.symm

-- THE DTD AS IT LIES IN A LEDGER; its readers (ahead of the own lines for loops: the library's lines walk them)
structure RZ where
  rid : Addr
  ca : Addr
  h1 : Int
  h2 : Int
  h3 : Int
  h4 : Int
  t1 : Tok
  t2 : Tok
  t3 : Tok
  t4 : Tok
  u : Tok
  u3 : Tok
  n : Nat
  n2 : Nat
structure DtdS where
  o : Addr
  dd : Addr
  ad : Addr
  rd : Addr
  ri : Addr
  rr : Addr
  rs : Addr
  h1 : Int
  h2 : Int
  h3 : Int
  h4 : Int
  t1 : Tok
  t2 : Tok
  t3 : Tok
  t4 : Tok
  u : Tok
  n : Nat
  e0 : Addr
  nt : Addr
  oa : Obj
  ob : Obj
  zi : RZ
  zr : RZ
  zs : RZ
structure RuleIn (led : Led) (ra : Addr) (kd : Str) (z : RZ) : Prop where
  i : (ra, instObj 112 z.rid) ∈ led
  d : (z.rid, dictOf [⟨z.h1, .str (Str.ofString "kind") z.t1, .str kd z.u⟩, ⟨z.h2, .str (Str.ofString "choices") z.t2, .ref z.ca⟩, ⟨z.h3, .str (Str.ofString "mode") z.t3, .str (Str.ofString "implied") z.u3⟩, ⟨z.h4, .str (Str.ofString "value") z.t4, .none⟩] z.n) ∈ led
  c : (z.ca, ({ cls := .type "tuple", data := .seq #[] z.n2 } : Obj)) ∈ led
structure DtdIn (w : World) (led : Led) (D : DtdS) : Prop where
  i : (D.o, instObj 313 D.dd) ∈ led
  d : (D.dd, dictOf [⟨D.h1, .str (Str.ofString "root") D.t1, .str (Str.ofString "e") D.u⟩, ⟨D.h2, .str (Str.ofString "elements") D.t2, .ref D.e0⟩, ⟨D.h3, .str (Str.ofString "attributes") D.t3, .ref D.ad⟩, ⟨D.h4, .str (Str.ofString "notations") D.t4, .ref D.nt⟩] D.n) ∈ led
  a1 : (D.ad, D.oa) ∈ led
  a2 : D.oa.IsDictOf (PySem.strKind PySem.Challenge.rw_sm0078_01.row.prog w) [(Str.ofString "e", .ref D.rd)]
  a3 : (D.ad == sysModules) = false
  b1 : (D.rd, D.ob) ∈ led
  b2 : D.ob.IsDictOf (PySem.strKind PySem.Challenge.rw_sm0078_01.row.prog w) [(Str.ofString "i", .ref D.ri), (Str.ofString "r", .ref D.rr), (Str.ofString "s", .ref D.rs)]
  b3 : (D.rd == sysModules) = false
  ri : RuleIn led D.ri (Str.ofString "ID") D.zi
  rr : RuleIn led D.rr (Str.ofString "IDREF") D.zr
  rs : RuleIn led D.rs (Str.ofString "IDREFS") D.zs
theorem RuleIn.mono {a b : Led} {ra : Addr} {kd : Str} {z : RZ} (hs : ∀ p ∈ a, p ∈ b) (h : RuleIn a ra kd z) : RuleIn b ra kd z := ⟨hs _ h.i, hs _ h.d, hs _ h.c⟩
theorem DtdIn.mono {w : World} {a b : Led} {D : DtdS} (hs : ∀ p ∈ a, p ∈ b) (h : DtdIn w a D) : DtdIn w b D := ⟨hs _ h.i, hs _ h.d, hs _ h.a1, h.a2, h.a3, hs _ h.b1, h.b2, h.b3, h.ri.mono hs, h.rr.mono hs, h.rs.mono hs⟩
section
theorem w22 : True := by
  k_with_none
  (k_with "~my_fold" => ((fail_if_success (fail_if_success k_fold)); (refine (let qk := _; (?_ : wpAny _ _ _ qk _ _)))))
  (k_with "~my_state" => ((fail_if_success (fail_if_success (conv => arg 6; pattern PySem.Shared.mk _ _ _ _ _))); (refine (let sk := _; (?_ : wpAny _ _ _ _ _ sk)))))
  (k_with "~my_around" => ((try refine (let vk := _; (?_ : wpAny _ _ (execs _ vk) _ _ _))); (refine (let ak := _; (?_ : wpAny _ ak _ _ _ _)))))
  (k_with "~my_enter" => (refine wpAny_call ?_; k_dflt ktr_enter; (try walk_at "my_around")))
  (k_with "~use2" => (
  (first | (refine post00 ?_; intro h9z9 tk9z9 F9z9 N9z9) | (refine post10 ?_; intro x1z9 h9z9 tk9z9 F9z9 N9z9) | (refine post20 ?_; intro x1z9 x2z9 h9z9 tk9z9 F9z9 N9z9) | (refine post21 ?_; intro x1z9 x2z9 q1z9 h9z9 tk9z9 F9z9 N9z9) | (refine post22 ?_; intro x1z9 x2z9 q1z9 q2z9 h9z9 tk9z9 F9z9 N9z9) | (refine post31 ?_; intro x1z9 x2z9 x3z9 q1z9 h9z9 tk9z9 F9z9 N9z9) | (refine post32 ?_; intro x1z9 x2z9 x3z9 q1z9 q2z9 h9z9 tk9z9 F9z9 N9z9) | (refine post33 ?_; intro x1z9 x2z9 x3z9 q1z9 q2z9 q3z9 h9z9 tk9z9 F9z9 N9z9) | (refine post41 ?_; intro x1z9 x2z9 x3z9 x4z9 q1z9 h9z9 tk9z9 F9z9 N9z9))
  (try walk_at "my_fold")
  (try dsimp only)
  (try k_sweep)
  (try walk_at "my_fold")))
  (k_with "~my_tail" => first | assumption | (refine' List.mem_cons_of_mem _ ?_; walk_at "my_tail"))
  (k_with "~my_sub" => first | exact fun _ hpz9 => hpz9 | exact List.forall_mem_nil _ | (refine' List.forall_mem_cons.mpr ⟨?_, ?_⟩; k_mem; walk_at "my_sub") | (intro pz9 hpz9; walk_at "my_tail"))
  (k_with "k_units" => ktr_units)
  (k_with "k_mem" => first | exact List.mem_cons_self | ktr_member | (refine' List.mem_cons_of_mem _ ?_; k_mem))
  (k_with "~my_and" => first | assumption | (refine And.right ?_; walk_at "my_and"))
  (k_with "~my_fresh" => first | assumption | exact ne_of_lts (by assumption) | exact ne_of_allLt (by first | assumption | exact And.right (by assumption) | exact And.right (And.right (by assumption)) | exact And.right (And.right (And.right (by assumption))) | exact And.right (And.right (And.right (And.right (by assumption)))) | exact And.right (And.right (And.right (And.right (And.right (by assumption))))) | exact And.right (And.right (And.right (And.right (And.right (And.right (by assumption)))))) | exact And.right (And.right (And.right (And.right (And.right (And.right (And.right (by assumption))))))) | exact And.right (And.right (And.right (And.right (And.right (And.right (And.right (And.right (by assumption))))))))))
  (k_with "~my_off" => first | assumption | exact List.forall_mem_nil _ | (refine' List.forall_mem_cons.mpr ⟨?_, ?_⟩; (first | k_ne | exact (by assumption : ∀ pz9 ∈ (_ : Led), pz9.1 ≠ _) _ (by k_mem)); walk_at "my_off") | (intro pz9 hpz9; first | exact (by assumption : ∀ pz9 ∈ (_ : Led), pz9.1 ≠ _) pz9 hpz9 | exact (by assumption : ∀ pz9 ∈ (_ : Led), pz9.1 ≠ _) pz9 (by walk_at "my_tail") | (have h9z9 := ltN ((by assumption : ∀ pz9 ∈ (_ : Led), pz9.1 < _) pz9 hpz9); refine neN ?_; omega)))
  (k_with "k_all" => walk_at "my_off")
  (k_with "~my_lt" => first | assumption | exact And.left (by assumption) | exact And.left (And.right (by assumption)) | exact And.left (And.right (And.right (by assumption))) | exact And.left (And.right (And.right (And.right (by assumption)))) | exact And.left (And.right (And.right (And.right (And.right (by assumption))))) | exact And.left (And.right (And.right (And.right (And.right (And.right (by assumption)))))) | exact And.left (And.right (And.right (And.right (And.right (And.right (And.right (by assumption))))))) | exact And.left (And.right (And.right (And.right (And.right (And.right (And.right (And.right (by assumption)))))))) | exact And.left (And.right (And.right (And.right (And.right (And.right (And.right (And.right (And.right (by assumption))))))))) | exact And.left (And.right (And.right (And.right (And.right (And.right (And.right (And.right (And.right (And.right (by assumption)))))))))) | exact And.left (And.right (And.right (And.right (And.right (And.right (And.right (And.right (And.right (And.right (And.right (by assumption))))))))))) | exact And.left (And.right (And.right (And.right (And.right (And.right (And.right (And.right (And.right (And.right (And.right (And.right (by assumption)))))))))))) | exact And.left (And.right (And.right (And.right (And.right (And.right (And.right (And.right (And.right (And.right (And.right (And.right (And.right (by assumption))))))))))))) | exact And.left (And.right (And.right (And.right (And.right (And.right (And.right (And.right (And.right (And.right (And.right (And.right (And.right (And.right (by assumption)))))))))))))) | exact And.left (And.right (And.right (And.right (And.right (And.right (And.right (And.right (And.right (And.right (And.right (And.right (And.right (And.right (And.right (by assumption))))))))))))))) | exact And.left (And.right (And.right (And.right (And.right (And.right (And.right (And.right (And.right (And.right (And.right (And.right (And.right (And.right (And.right (And.right (by assumption)))))))))))))))))
  (k_with "k_ne" => (refine neN ?_; (try dsimp only); first | assumption | exact Ne.symm (by assumption) | (refine Nat.ne_of_lt ?_; walk_at "my_lt") | (refine Nat.ne_of_gt ?_; walk_at "my_lt") | omega))
  (k_with "~my_for" => (k_here; (rename Fr _ _ _ _ => lF'z9); (with_unfolding_all refine' for_any lF'z9 ?_); (try walk_at "my_fold"); walk_say "MY FOR"))
  (k_with "~my_look" => first | with_reducible assumption | rfl | assumption)
  (k_with "~exec For Name Name cons nil" => walk_at "my_for")
  (k_with "~exec For Name Call cons nil" => walk_at "my_for")
  (k_with "~exec For Name List cons nil" => walk_at "my_for")
  (k_with "~exec For Tuple Name cons nil" => walk_at "my_for")
  (k_with "~exec For Tuple Call cons nil" => walk_at "my_for")
  (k_with "~exec For Name BinOp cons nil" => walk_at "my_for")
  (k_with "~TurnA" => (dsimp only [TurnA]))
  (k_with "~eval ListComp" => (k_here; k_dflt (refine' comp_any (by k_asm) (by with_unfolding_all rfl) (by decide) (by rfl) (by decide) (by decide) ?_); (try k_fold); walk_say "MY COMP"))
  (k_with "~exec Assign cons ListComp" => (k_here; k_dflt (refine' comp_assign (by k_asm) (by rfl) (by with_unfolding_all rfl) (by with_unfolding_all rfl) (by decide) (by rfl) (by decide) (by rfl) (by rfl) (by decide) ?_); (try k_fold); walk_say "MY COMP"))
  (k_with "~TestElt" => (dsimp only [TestElt]; (try k_fold)))
  (k_with "~compareOp In str ref" => (k_here; k_dflt (refine' in_tuple_strs (tupK (by k_in) (by k_is)) (by repeat constructor) ?_)))
  (k_with "~compareOp In str ref" => (k_here; k_dflt (refine' in_tuple_strs (News.isTup (by k_asm) (by k_mem)) (by repeat constructor) ?_)))
  (k_with "~my_strs" => first | exact StrsIn.of _ | exact StrsIn.nil | exact StrsIn.one _ _)
  (k_with "~compareOp Eq ref ref" => (k_here; k_dflt (refine' eq_strs (by k_asm) (by k_mem) (by k_mem) (by walk_at "my_strs") (by walk_at "my_strs") (by k_units) ?_)))
  (k_with "~compareOp NotEq ref ref" => (k_here; k_dflt (refine' ne_strs (by k_asm) (by k_mem) (by k_mem) (by walk_at "my_strs") (by walk_at "my_strs") (by k_units) ?_)))
  (k_with "~my_size" => (simp only [List.size_toArray, strValues, List.length_map, Array.length_toList, List.length_append, List.length_dropLast, List.length_cons, List.length_nil, sizeLine_eq]; omega))
  (k_with "~subscriptTail Name Slice ref ref" => (k_here; (with_reducible show wpAny _ _ (subscriptTail _ (PySem.Expr.Slice none _ none _) (Value.ref _) (Value.ref _)) _ _ _); k_dflt (refine' kms_slice_lit (by k_asm) (by k_asm) (by exact News.isList (by k_asm) (by k_mem)) (by kmk_part) (by kmk_part) (by exact pick_dropLast _) ?_ (by with_unfolding_all rfl) (by kmk_pure) (by walk_at "my_size")); intro D'z9 h'z9 F'z9 N'z9 l1z9; (try k_lt l1z9); (try k_sweep)))
  (k_with "~subscriptTail Name UnaryOp ref int" => (k_here; (with_reducible show wpAny _ _ (subscriptTail _ _ (Value.ref _) (Value.int _ _)) _ _ _); k_dflt (refine' item_last (by exact News.isList (by k_asm) (by k_mem)) (by assumption) ?_)))
  (k_with "~binaryOp Add ref ref" => (k_here; k_dflt (refine' kmk_add_lit (by k_asm) (by k_asm) (by exact News.isList (by k_asm) (by k_mem)) (by exact News.isList (by k_asm) (by k_mem)) (by first | exact add_one _ _ _ | exact add_two _ _) ?_ (by walk_at "my_size")); intro D'z9 h'z9 F'z9 N'z9 l1z9; (try k_lt l1z9); (try k_sweep)))
  (k_with "~call ref" => (k_here; (with_reducible show wpAny _ _ (call (Value.ref 52) _) _ _ _); ktf_call (c_small _ _ _ _)))
  (k_with "~my_signs" => (law_clear; simp only [s_a, s_z, s_A, s_Z, s_0, s_9, lt1, str1_eq, e_us, e_co, e_mi, e_do, smallB_iff, startB_iff, charB_iff, ← decide_not, decide_eq_decide, decide_eq_true_eq, decide_eq_false_iff_not, decide_eq_true_eq, eq_comm (a := true), Bool.not_eq_true, Bool.not_eq_false] at *; omega))
  (k_with "~call ref" => (k_here; (with_reducible show wpAny _ _ (call (Value.ref 59) _) _ _ _); ktf_call (c_start _ _ _ _ (by assumption))))
  (k_with "~call ref" => (k_here; (with_reducible show wpAny _ _ (call (Value.ref 66) _) _ _ _); ktf_call (c_char _ _ _ _ (by assumption))))
  (k_with "~call ref" => (k_here; (with_reducible show wpAny _ _ (call (Value.ref 73) _) _ _ _); ktf_call (c_nmtoken _ _ _ _ (by assumption))))
  (k_with "~call ref" => (k_here; (with_reducible show wpAny _ _ (call (Value.ref 80) _) _ _ _); ktf_call (c_name _ _ _ _ (by assumption))))
  (k_with "~call ref" => (k_here; (with_reducible show wpAny _ _ (call (Value.ref 121) _) _ _ _); ktf_call (c_blank _ _ _ _ (by assumption))))
  (k_with "~call ref" => (k_here; (with_reducible show wpAny _ _ (call (Value.ref 128) _) _ _ _); ktf_call (c_norm _ _ _ _ _ _ (by assumption))))
  (k_with "~call ref" => (k_here; (with_reducible show wpAny _ _ (call (Value.ref 135) _) _ _ _); ktf_call (c_words _ _ _ _ _ _ (by assumption))))
  (k_with "~call ref" => (k_here; (with_reducible show wpAny _ _ (call (Value.ref 142) _) _ _ _); ktf_call (c_isword _ _ _ _ _ _ (by assumption))))
  (k_with "~call ref" => (k_here; (with_reducible show wpAny _ _ (call (Value.ref 149) _) _ _ _); ktf_call (c_fits _ _ _ _ _ _ _ _ _ _ _ _ _ _ _ _ _ _ _ _ (by assumption) (by assumption) (by k_mem) (by k_mem) (by k_mem) (by assumption))))
  (k_with "~call ref" => (k_here; (with_reducible show wpAny _ _ (call (Value.ref 566) _) _ _ _); ktf_call (c_lawword _ _ _ _ _ (by assumption) (by assumption))))
  (k_with "~call ref" => (k_here; (with_reducible show wpAny _ _ (call (Value.ref 561) _) _ _ _); ktf_call (c_parted _ _ _ _ (by assumption) (by assumption))))
  (k_with "~call builtin:len" => (k_here; (with_reducible show wpAny _ _ (call (Value.builtin _) [Value.ref _]) _ _ _); k_dflt (refine' len_at (by exact News.isList (by k_asm) (by k_mem)) (by first | omega | ((simp only [List.length_cons, List.length_nil, List.length_append, List.length_map, strValues]); omega)) ?_)))
  (k_with "~my_pick" => first | exact Pick.head | (refine' Pick.tail (by walk_at "my_pick")))
  (k_with "~call ref" => (k_here; (with_reducible show wpAny _ _ (call (Value.ref 542) _) _ _ _); ktr_call (c_take _ _ _ _ _ _ (by assumption) (by first | assumption | decide) (by first | assumption | decide) (by walk_at "my_off")) ()))
  (k_with "~call ref" => (k_here; (with_reducible show wpAny _ _ (call (Value.ref 549) _) _ _ _); ktr_call (c_one _ _ _ _ _ _ _ (by assumption) (by k_mem) (by first | assumption | exact Nat.le_of_ble_eq_true rfl) (by first | assumption | exact Nat.le_of_ble_eq_true rfl) (by walk_at "my_off")) ()))
  (k_with "~call ref" => (k_here; (with_reducible show wpAny _ _ (call (Value.ref 554) _) _ _ _); ktr_call (c_value _ _ _ _ (by assumption) (by walk_at "my_off")) ()))
  (k_with "~call ref" => (k_here; (with_reducible show wpAny _ _ (call (Value.ref 571) _) _ _ _); ktf_call (c_kind _ _ _ _ _ _ (by first | assumption | decide +kernel) (by k_asm))))
  (k_with "~my_tree" => first | assumption | (refine TreeIn.mono ?_ (by assumption); walk_at "my_sub"))
  (k_with "~call ref" => (k_here; (with_reducible show wpAny _ _ (call (Value.ref 367) _) _ _ _); ktf_call (c_row _ _ _ _ _ _ (by walk_at "my_tree") (by assumption) (by assumption))))
  (k_with "~call ref" => (k_here; (with_reducible show wpAny _ _ (call (Value.ref 444) _) _ _ _); ktf_call (c_tkind _ _ _ _ _ _ (by walk_at "my_tree") (by assumption) (by assumption))))
  (k_with "~call ref" => (k_here; (with_reducible show wpAny _ _ (call (Value.ref 451) _) _ _ _); ktf_call (c_tname _ _ _ _ _ _ (by walk_at "my_tree") (by assumption) (by assumption))))
  (k_with "~call ref" => (k_here; (with_reducible show wpAny _ _ (call (Value.ref 472) _) _ _ _); ktf_call (c_tvalue _ _ _ _ _ _ (by walk_at "my_tree") (by assumption) (by assumption))))
  (k_with "~call ref" => (k_here; (with_reducible show wpAny _ _ (call (Value.ref 486) _) _ _ _); ktf_call (c_children _ _ _ _ _ _ (by walk_at "my_tree") (by assumption) (by assumption))))
  (k_with "~call ref" => (k_here; (with_reducible show wpAny _ _ (call (Value.ref 493) _) _ _ _); ktf_call (c_attributes _ _ _ _ _ _ (by walk_at "my_tree") (by assumption) (by assumption))))
  (k_with "~call ref" => (k_here; (with_reducible show wpAny _ _ (call (Value.ref 451) _) _ _ _); ktf_call (c_tnameX _ _ _ _ _ _ _ (by walk_at "my_tree") (by assumption) (by assumption) (by first | assumption | exact rfl))))
  (k_with "k_ne" => (refine neN ?_; (try dsimp only); first | assumption | exact Ne.symm (by assumption) | (refine Nat.ne_of_lt ?_; walk_at "my_lt") | (refine Nat.ne_of_gt ?_; walk_at "my_lt") | omega | exact ne_of_mem (by assumption) (by k_mem) | exact Ne.symm (ne_of_mem (by assumption) (by k_mem))))
  (k_with "~exec While Compare cons nil" => (k_here; (rename Fr _ _ _ _ => lF'z9); (with_unfolding_all refine' while_any lF'z9 ?_); walk_say "MY WHILE"))
  (k_with "~my_ints" => first | exact IntsIn.of _ | exact IntsIn.nil | exact IntsIn.snoc _ _ _)
  (k_with "~compareOp Eq ref ref" => (k_here; k_dflt (refine' eq_ints (by k_asm) (by k_mem) (by k_mem) (by walk_at "my_ints") (by walk_at "my_ints") (by k_units) ?_)))
  (k_with "~compareOp NotEq ref ref" => (k_here; k_dflt (refine' ne_ints (by k_asm) (by k_mem) (by k_mem) (by walk_at "my_ints") (by walk_at "my_ints") (by k_units) ?_)))
  (k_with "~my_size" => (simp only [List.size_toArray, strValues, intVals, refVals, List.length_map, Array.length_toList, List.length_append, List.length_reverse, List.length_dropLast, List.length_cons, List.length_nil, sizeLine_eq]; omega))
  (k_with "~call builtin:list.append" => (k_here; (with_reducible show wpAny _ _ (call (Value.builtin _) [Value.ref _, _]) _ _ _); k_dflt (refine' append_my (by k_asm) (by k_asm) (by k_upd) (by walk_at "my_size") ?_); intro h'z9 F'z9 N'z9; (try k_sweep)))
  (k_with "~call builtin:list.pop" => (k_here; (with_reducible show wpAny _ _ (call (Value.builtin _) [Value.ref _]) _ _ _); k_dflt (refine' pop_my (by k_asm) (by k_asm) (by k_upd) (by walk_at "my_size") ?_); intro h'z9 F'z9 N'z9; (try k_sweep)))
  (k_with "~call builtin:list.extend" => (k_here; (with_reducible show wpAny _ _ (call (Value.builtin _) [Value.ref _, Value.ref _]) _ _ _); k_dflt (refine' extend_my (by k_asm) (by k_asm) (by k_mem) (by (intro k8z9; k_upd)) (by walk_at "my_size") ?_); intro k9z9 h'z9 F'z9 N'z9; (try dsimp only at N'z9); (try k_sweep)))
  (k_with "~subscriptTail Name Slice ref ref" => (k_here; (with_reducible show wpAny _ _ (subscriptTail _ (PySem.Expr.Slice none none (some _) _) (Value.ref _) (Value.ref _)) _ _ _); k_dflt (refine' rev_my (by k_asm) (by k_asm) (by exact News.isList (by k_asm) (by k_mem)) (by exact IsPart.int _ _) (by with_unfolding_all rfl) (by kmk_pure) (by walk_at "my_size") ?_); intro D'z9 h'z9 F'z9 N'z9 l1z9; (try k_lt l1z9); (try k_sweep)))
  (k_with "k_room" => ktr_room)
  (k_with "~getMethod ref" => (k_here; (with_reducible show wpAny _ _ (getMethod (Value.ref _) (PySem.Str.ofString "get") _) _ _ _); k_dflt (refine kdg_method (knd := PySem.strKind _ _) (by k_asm) (by k_mem) (by k_asm) ?_)))
  (k_with "~call builtin:dict.get" => (k_here; k_dflt (first
    | refine kdg_get1 (knd := PySem.strKind _ _) (by k_asm) (by k_mem) (by k_asm) (by k_asm) (strKind_is _ _ _ _) (some _) (by first | rfl | assumption) ?_
    | refine kdg_get2 (knd := PySem.strKind _ _) (by k_asm) (by k_mem) (by k_asm) (by k_asm) (strKind_is _ _ _ _) (some _) (by first | rfl | assumption) ?_); (try dsimp only [Option.getD])))
  (k_with "~subscriptTail" => (k_here; (with_reducible show wpAny _ _ (subscriptTail _ _ (Value.ref _) (Value.str _ _)) _ _ _); k_dflt (refine kda_item (knd := PySem.strKind _ _) (by k_asm) (by k_mem) (by k_asm) (strKind_is _ _ _ _) (by first | rfl | assumption) ?_)))
  (k_with "~getItem ref str" => (k_here; k_dflt (refine kdt_getItem (knd := PySem.strKind _ _) (by k_asm) (by k_mem) (by k_asm) (strKind_is _ _ _ _) (by first | rfl | assumption) ?_)))
  trivial
set_option maxHeartbeats 4000000 in
theorem c_rule (w : World) (D : DtdS) (nm : Str) (ra : Addr) (t u : Tok) (news : Led) (hD : DtdIn w news D) (hnm : valueAt [(Str.ofString "i", Value.ref D.ri), (Str.ofString "r", Value.ref D.rr), (Str.ofString "s", Value.ref D.rs)] nm = some (.ref ra)) :
    Con w 3 277 [.ref D.o, .str (Str.ofString "e") t, .str nm u] news (fun news' r => news' = news ∧ r = .ref ra) := by
  have g1 := hD.i
  have g2 := hD.d
  have z1 := hD.a1
  have z2 := hD.a2
  have z3 := hD.a3
  have v1 := hD.b1
  have v2 := hD.b2
  have v3 := hD.b3
  unfold Con; k_fill; intro loose mean mg mb dp un gd cn cs a ccd cl outer A₀ base h₀ L m s Q E B F X N Tp hk hdp hun hret; walk_at "my_enter"
  k_steps
  exact hret _ _ _ _ (by k_asm) (cb_drop (by k_asm) (by walk_at "my_sub")) ⟨rfl, rfl⟩
theorem rules_at {w : World} {led : Led} {D : DtdS} (hD : DtdIn w led D) {i : Nat} {k : Str} {y : Value} (h : [(Str.ofString "i", Value.ref D.ri), (Str.ofString "r", Value.ref D.rr), (Str.ofString "s", Value.ref D.rs)][i]? = some (k, y)) :
    ∃ ra kd z, valueAt [(Str.ofString "i", Value.ref D.ri), (Str.ofString "r", Value.ref D.rr), (Str.ofString "s", Value.ref D.rs)] k = some (.ref ra) ∧ RuleIn led ra kd z ∧ ((i = 0 ∧ k = Str.ofString "i" ∧ kd = Str.ofString "ID") ∨ (0 < i ∧ (kd == Str.ofString "ID") = false)) := by
  match i, h with
  | 0, h => simp only [List.getElem?_cons_zero, Option.some.injEq, Prod.mk.injEq] at h; obtain ⟨rfl, rfl⟩ := h; exact ⟨D.ri, _, D.zi, rfl, hD.ri, .inl ⟨rfl, rfl, rfl⟩⟩
  | 1, h => simp only [List.getElem?_cons_zero, List.getElem?_cons_succ, Option.some.injEq, Prod.mk.injEq] at h; obtain ⟨rfl, rfl⟩ := h; exact ⟨D.rr, _, D.zr, rfl, hD.rr, .inr ⟨by decide, by decide +kernel⟩⟩
  | 2, h => simp only [List.getElem?_cons_zero, List.getElem?_cons_succ, Option.some.injEq, Prod.mk.injEq] at h; obtain ⟨rfl, rfl⟩ := h; exact ⟨D.rs, _, D.zs, rfl, hD.rs, .inr ⟨by decide, by decide +kernel⟩⟩
  | i + 3, h => simp at h
set_option maxHeartbeats 4000000 in
theorem c_idname (w : World) (D : DtdS) (t : Tok) (news : Led) (hD : DtdIn w news D) :
    Con w 5 289 [.ref D.o, .str (Str.ofString "e") t] news (fun news' r => ∃ t, news' = news ∧ r = .str (Str.ofString "i") t) := by
  have g1 := hD.i
  have g2 := hD.d
  have z1 := hD.a1
  have z2 := hD.a2
  have z3 := hD.a3
  have v1 := hD.b1
  have v2 := hD.b2
  have v3 := hD.b3
  unfold Con; k_fill; intro loose mean mg mb dp un gd cn cs a ccd cl outer A₀ base h₀ L m s Q E B F X N Tp hk hdp hun hret; walk_at "my_enter"
  k_steps
  (try walk_at "my_fold")
  refine comp_keys (fun n₀ i K => ∀ ys, ((i = 0 ∧ ys = []) ∨ (0 < i ∧ ∃ t, ys = [.str (Str.ofString "i") t])) → K ys n₀) rfl (by k_asm) (by k_asm) (by k_mem) (by k_asm) (by k_asm) (by rw [sizeLine_eq]; exact Nat.le_of_ble_eq_true rfl) rfl rfl (fun K k => by exact k [] (.inl ⟨rfl, rfl⟩)) ?_ ?_
  · intro i k y v g hk9 hv9
    obtain ⟨t9, rfl⟩ := key_str hv9
    obtain ⟨ra, kd, z, hva, hru, hki⟩ := rules_at hD hk9
    have x1 := hru.i
    have x2 := hru.d
    intro I ys hys oI C oC D h tk m₂ E' S hoC hB F₁ N₁ o3 ne
    dsimp only [BndN] at hB
    dsimp only [TestElt]
    k_steps
    · rename (kd == _) = true => hq
      exact LCg.CompEnd.intro (by k_asm) (by k_asm) _ (by walk_at "my_sub") o3 S (fun K k' => k' _ (.inr ⟨Nat.succ_pos _, t9, by
        rcases hki with ⟨h1, h2⟩ | ⟨_, h2⟩
        · rw [show ys = [] from hys.elim (fun h => h.2) (fun h => absurd h.1 (by omega)), h2.1]; rfl
        · rw [h2] at hq; cases hq⟩))
    · rename (kd == _) = false => hq
      exact LCg.CompEnd.intro (by k_asm) (by k_asm) _ (by walk_at "my_sub") o3 S (fun K k' => k' _ (.inr ⟨Nat.succ_pos _, by
        rcases hys with ⟨h1, h2⟩ | ⟨h1, h2⟩
        · rcases hki with ⟨h3, h4, h5⟩ | ⟨h3, _⟩
          · rw [h5] at hq; simp at hq
          · omega
        · exact h2⟩))
  · intro g ys hys D h tk F₁ N₁ o1
    obtain ⟨t9, rfl⟩ : ∃ t, ys = [.str (Str.ofString "i") t] := by
      rcases hys with ⟨h, _⟩ | ⟨_, h⟩
      · exact absurd h (by simp)
      · exact h
    k_steps
    exact hret _ _ _ _ (by k_asm) (cb_drop (by k_asm) (by walk_at "my_sub")) ⟨t9, rfl, rfl⟩
end

-- walk_elements: the elements in the order in which the stack gives them
inductive WalksT (T : TreeS) : List Nat → List Nat → Prop
  | nil : WalksT T [] []
  | cons {l : List Nat} {k : Nat} {nd : Nd} {r : List Nat} : T.nodes[k]? = some nd → nd.kind = Str.ofString "element" → l.length ≤ 100 → WalksT T (l ++ (nd.kids.map (·.1)).reverse) r → WalksT T (l ++ [k]) (k :: r)
theorem snoc_of {α : Type} {l : List α} (h : l ≠ []) : ∃ l0 p, l = l0 ++ [p] := ⟨_, _, (List.dropLast_concat_getLast h).symm⟩
section
theorem w23 : True := by
  k_with_none
  (k_with "~my_fold" => ((fail_if_success (fail_if_success k_fold)); (refine (let qk := _; (?_ : wpAny _ _ _ qk _ _)))))
  (k_with "~my_state" => ((fail_if_success (fail_if_success (conv => arg 6; pattern PySem.Shared.mk _ _ _ _ _))); (refine (let sk := _; (?_ : wpAny _ _ _ _ _ sk)))))
  (k_with "~my_around" => ((try refine (let vk := _; (?_ : wpAny _ _ (execs _ vk) _ _ _))); (refine (let ak := _; (?_ : wpAny _ ak _ _ _ _)))))
  (k_with "~my_enter" => (refine wpAny_call ?_; k_dflt ktr_enter; (try walk_at "my_around")))
  (k_with "~use2" => (
  (first | (refine post00 ?_; intro h9z9 tk9z9 F9z9 N9z9) | (refine post10 ?_; intro x1z9 h9z9 tk9z9 F9z9 N9z9) | (refine post20 ?_; intro x1z9 x2z9 h9z9 tk9z9 F9z9 N9z9) | (refine post21 ?_; intro x1z9 x2z9 q1z9 h9z9 tk9z9 F9z9 N9z9) | (refine post22 ?_; intro x1z9 x2z9 q1z9 q2z9 h9z9 tk9z9 F9z9 N9z9) | (refine post31 ?_; intro x1z9 x2z9 x3z9 q1z9 h9z9 tk9z9 F9z9 N9z9) | (refine post32 ?_; intro x1z9 x2z9 x3z9 q1z9 q2z9 h9z9 tk9z9 F9z9 N9z9) | (refine post33 ?_; intro x1z9 x2z9 x3z9 q1z9 q2z9 q3z9 h9z9 tk9z9 F9z9 N9z9) | (refine post41 ?_; intro x1z9 x2z9 x3z9 x4z9 q1z9 h9z9 tk9z9 F9z9 N9z9))
  (try walk_at "my_fold")
  (try dsimp only)
  (try k_sweep)
  (try walk_at "my_fold")))
  (k_with "~my_tail" => first | assumption | (refine' List.mem_cons_of_mem _ ?_; walk_at "my_tail"))
  (k_with "~my_sub" => first | exact fun _ hpz9 => hpz9 | exact List.forall_mem_nil _ | (refine' List.forall_mem_cons.mpr ⟨?_, ?_⟩; k_mem; walk_at "my_sub") | (intro pz9 hpz9; walk_at "my_tail"))
  (k_with "k_units" => ktr_units)
  (k_with "k_mem" => first | exact List.mem_cons_self | ktr_member | (refine' List.mem_cons_of_mem _ ?_; k_mem))
  (k_with "~my_and" => first | assumption | (refine And.right ?_; walk_at "my_and"))
  (k_with "~my_fresh" => first | assumption | exact ne_of_lts (by assumption) | exact ne_of_allLt (by first | assumption | exact And.right (by assumption) | exact And.right (And.right (by assumption)) | exact And.right (And.right (And.right (by assumption))) | exact And.right (And.right (And.right (And.right (by assumption)))) | exact And.right (And.right (And.right (And.right (And.right (by assumption))))) | exact And.right (And.right (And.right (And.right (And.right (And.right (by assumption)))))) | exact And.right (And.right (And.right (And.right (And.right (And.right (And.right (by assumption))))))) | exact And.right (And.right (And.right (And.right (And.right (And.right (And.right (And.right (by assumption))))))))))
  (k_with "~my_off" => first | assumption | exact List.forall_mem_nil _ | (refine' List.forall_mem_cons.mpr ⟨?_, ?_⟩; (first | k_ne | exact (by assumption : ∀ pz9 ∈ (_ : Led), pz9.1 ≠ _) _ (by k_mem)); walk_at "my_off") | (intro pz9 hpz9; first | exact (by assumption : ∀ pz9 ∈ (_ : Led), pz9.1 ≠ _) pz9 hpz9 | exact (by assumption : ∀ pz9 ∈ (_ : Led), pz9.1 ≠ _) pz9 (by walk_at "my_tail") | (have h9z9 := ltN ((by assumption : ∀ pz9 ∈ (_ : Led), pz9.1 < _) pz9 hpz9); refine neN ?_; omega)))
  (k_with "k_all" => walk_at "my_off")
  (k_with "~my_lt" => first | assumption | exact And.left (by assumption) | exact And.left (And.right (by assumption)) | exact And.left (And.right (And.right (by assumption))) | exact And.left (And.right (And.right (And.right (by assumption)))) | exact And.left (And.right (And.right (And.right (And.right (by assumption))))) | exact And.left (And.right (And.right (And.right (And.right (And.right (by assumption)))))) | exact And.left (And.right (And.right (And.right (And.right (And.right (And.right (by assumption))))))) | exact And.left (And.right (And.right (And.right (And.right (And.right (And.right (And.right (by assumption)))))))) | exact And.left (And.right (And.right (And.right (And.right (And.right (And.right (And.right (And.right (by assumption))))))))) | exact And.left (And.right (And.right (And.right (And.right (And.right (And.right (And.right (And.right (And.right (by assumption)))))))))) | exact And.left (And.right (And.right (And.right (And.right (And.right (And.right (And.right (And.right (And.right (And.right (by assumption))))))))))) | exact And.left (And.right (And.right (And.right (And.right (And.right (And.right (And.right (And.right (And.right (And.right (And.right (by assumption)))))))))))) | exact And.left (And.right (And.right (And.right (And.right (And.right (And.right (And.right (And.right (And.right (And.right (And.right (And.right (by assumption))))))))))))) | exact And.left (And.right (And.right (And.right (And.right (And.right (And.right (And.right (And.right (And.right (And.right (And.right (And.right (And.right (by assumption)))))))))))))) | exact And.left (And.right (And.right (And.right (And.right (And.right (And.right (And.right (And.right (And.right (And.right (And.right (And.right (And.right (And.right (by assumption))))))))))))))) | exact And.left (And.right (And.right (And.right (And.right (And.right (And.right (And.right (And.right (And.right (And.right (And.right (And.right (And.right (And.right (And.right (by assumption)))))))))))))))))
  (k_with "k_ne" => (refine neN ?_; (try dsimp only); first | assumption | exact Ne.symm (by assumption) | (refine Nat.ne_of_lt ?_; walk_at "my_lt") | (refine Nat.ne_of_gt ?_; walk_at "my_lt") | omega))
  (k_with "~my_for" => (k_here; (rename Fr _ _ _ _ => lF'z9); (with_unfolding_all refine' for_any lF'z9 ?_); (try walk_at "my_fold"); walk_say "MY FOR"))
  (k_with "~my_look" => first | with_reducible assumption | rfl | assumption)
  (k_with "~exec For Name Name cons nil" => walk_at "my_for")
  (k_with "~exec For Name Call cons nil" => walk_at "my_for")
  (k_with "~exec For Name List cons nil" => walk_at "my_for")
  (k_with "~exec For Tuple Name cons nil" => walk_at "my_for")
  (k_with "~exec For Tuple Call cons nil" => walk_at "my_for")
  (k_with "~exec For Name BinOp cons nil" => walk_at "my_for")
  (k_with "~TurnA" => (dsimp only [TurnA]))
  (k_with "~eval ListComp" => (k_here; k_dflt (refine' comp_any (by k_asm) (by with_unfolding_all rfl) (by decide) (by rfl) (by decide) (by decide) ?_); (try k_fold); walk_say "MY COMP"))
  (k_with "~exec Assign cons ListComp" => (k_here; k_dflt (refine' comp_assign (by k_asm) (by rfl) (by with_unfolding_all rfl) (by with_unfolding_all rfl) (by decide) (by rfl) (by decide) (by rfl) (by rfl) (by decide) ?_); (try k_fold); walk_say "MY COMP"))
  (k_with "~TestElt" => (dsimp only [TestElt]; (try k_fold)))
  (k_with "~compareOp In str ref" => (k_here; k_dflt (refine' in_tuple_strs (tupK (by k_in) (by k_is)) (by repeat constructor) ?_)))
  (k_with "~compareOp In str ref" => (k_here; k_dflt (refine' in_tuple_strs (News.isTup (by k_asm) (by k_mem)) (by repeat constructor) ?_)))
  (k_with "~my_strs" => first | exact StrsIn.of _ | exact StrsIn.nil | exact StrsIn.one _ _)
  (k_with "~compareOp Eq ref ref" => (k_here; k_dflt (refine' eq_strs (by k_asm) (by k_mem) (by k_mem) (by walk_at "my_strs") (by walk_at "my_strs") (by k_units) ?_)))
  (k_with "~compareOp NotEq ref ref" => (k_here; k_dflt (refine' ne_strs (by k_asm) (by k_mem) (by k_mem) (by walk_at "my_strs") (by walk_at "my_strs") (by k_units) ?_)))
  (k_with "~my_size" => (simp only [List.size_toArray, strValues, List.length_map, Array.length_toList, List.length_append, List.length_dropLast, List.length_cons, List.length_nil, sizeLine_eq]; omega))
  (k_with "~subscriptTail Name Slice ref ref" => (k_here; (with_reducible show wpAny _ _ (subscriptTail _ (PySem.Expr.Slice none _ none _) (Value.ref _) (Value.ref _)) _ _ _); k_dflt (refine' kms_slice_lit (by k_asm) (by k_asm) (by exact News.isList (by k_asm) (by k_mem)) (by kmk_part) (by kmk_part) (by exact pick_dropLast _) ?_ (by with_unfolding_all rfl) (by kmk_pure) (by walk_at "my_size")); intro D'z9 h'z9 F'z9 N'z9 l1z9; (try k_lt l1z9); (try k_sweep)))
  (k_with "~subscriptTail Name UnaryOp ref int" => (k_here; (with_reducible show wpAny _ _ (subscriptTail _ _ (Value.ref _) (Value.int _ _)) _ _ _); k_dflt (refine' item_last (by exact News.isList (by k_asm) (by k_mem)) (by assumption) ?_)))
  (k_with "~binaryOp Add ref ref" => (k_here; k_dflt (refine' kmk_add_lit (by k_asm) (by k_asm) (by exact News.isList (by k_asm) (by k_mem)) (by exact News.isList (by k_asm) (by k_mem)) (by first | exact add_one _ _ _ | exact add_two _ _) ?_ (by walk_at "my_size")); intro D'z9 h'z9 F'z9 N'z9 l1z9; (try k_lt l1z9); (try k_sweep)))
  (k_with "~call ref" => (k_here; (with_reducible show wpAny _ _ (call (Value.ref 52) _) _ _ _); ktf_call (c_small _ _ _ _)))
  (k_with "~my_signs" => (law_clear; simp only [s_a, s_z, s_A, s_Z, s_0, s_9, lt1, str1_eq, e_us, e_co, e_mi, e_do, smallB_iff, startB_iff, charB_iff, ← decide_not, decide_eq_decide, decide_eq_true_eq, decide_eq_false_iff_not, decide_eq_true_eq, eq_comm (a := true), Bool.not_eq_true, Bool.not_eq_false] at *; omega))
  (k_with "~call ref" => (k_here; (with_reducible show wpAny _ _ (call (Value.ref 59) _) _ _ _); ktf_call (c_start _ _ _ _ (by assumption))))
  (k_with "~call ref" => (k_here; (with_reducible show wpAny _ _ (call (Value.ref 66) _) _ _ _); ktf_call (c_char _ _ _ _ (by assumption))))
  (k_with "~call ref" => (k_here; (with_reducible show wpAny _ _ (call (Value.ref 73) _) _ _ _); ktf_call (c_nmtoken _ _ _ _ (by assumption))))
  (k_with "~call ref" => (k_here; (with_reducible show wpAny _ _ (call (Value.ref 80) _) _ _ _); ktf_call (c_name _ _ _ _ (by assumption))))
  (k_with "~call ref" => (k_here; (with_reducible show wpAny _ _ (call (Value.ref 121) _) _ _ _); ktf_call (c_blank _ _ _ _ (by assumption))))
  (k_with "~call ref" => (k_here; (with_reducible show wpAny _ _ (call (Value.ref 128) _) _ _ _); ktf_call (c_norm _ _ _ _ _ _ (by assumption))))
  (k_with "~call ref" => (k_here; (with_reducible show wpAny _ _ (call (Value.ref 135) _) _ _ _); ktf_call (c_words _ _ _ _ _ _ (by assumption))))
  (k_with "~call ref" => (k_here; (with_reducible show wpAny _ _ (call (Value.ref 142) _) _ _ _); ktf_call (c_isword _ _ _ _ _ _ (by assumption))))
  (k_with "~call ref" => (k_here; (with_reducible show wpAny _ _ (call (Value.ref 149) _) _ _ _); ktf_call (c_fits _ _ _ _ _ _ _ _ _ _ _ _ _ _ _ _ _ _ _ _ (by assumption) (by assumption) (by k_mem) (by k_mem) (by k_mem) (by assumption))))
  (k_with "~call ref" => (k_here; (with_reducible show wpAny _ _ (call (Value.ref 566) _) _ _ _); ktf_call (c_lawword _ _ _ _ _ (by assumption) (by assumption))))
  (k_with "~call ref" => (k_here; (with_reducible show wpAny _ _ (call (Value.ref 561) _) _ _ _); ktf_call (c_parted _ _ _ _ (by assumption) (by assumption))))
  (k_with "~call builtin:len" => (k_here; (with_reducible show wpAny _ _ (call (Value.builtin _) [Value.ref _]) _ _ _); k_dflt (refine' len_at (by exact News.isList (by k_asm) (by k_mem)) (by first | omega | ((simp only [List.length_cons, List.length_nil, List.length_append, List.length_map, strValues]); omega)) ?_)))
  (k_with "~my_pick" => first | exact Pick.head | (refine' Pick.tail (by walk_at "my_pick")))
  (k_with "~call ref" => (k_here; (with_reducible show wpAny _ _ (call (Value.ref 542) _) _ _ _); ktr_call (c_take _ _ _ _ _ _ (by assumption) (by first | assumption | decide) (by first | assumption | decide) (by walk_at "my_off")) ()))
  (k_with "~call ref" => (k_here; (with_reducible show wpAny _ _ (call (Value.ref 549) _) _ _ _); ktr_call (c_one _ _ _ _ _ _ _ (by assumption) (by k_mem) (by first | assumption | exact Nat.le_of_ble_eq_true rfl) (by first | assumption | exact Nat.le_of_ble_eq_true rfl) (by walk_at "my_off")) ()))
  (k_with "~call ref" => (k_here; (with_reducible show wpAny _ _ (call (Value.ref 554) _) _ _ _); ktr_call (c_value _ _ _ _ (by assumption) (by walk_at "my_off")) ()))
  (k_with "~call ref" => (k_here; (with_reducible show wpAny _ _ (call (Value.ref 571) _) _ _ _); ktf_call (c_kind _ _ _ _ _ _ (by first | assumption | decide +kernel) (by k_asm))))
  (k_with "~my_tree" => first | assumption | (refine TreeIn.mono ?_ (by assumption); walk_at "my_sub"))
  (k_with "~call ref" => (k_here; (with_reducible show wpAny _ _ (call (Value.ref 367) _) _ _ _); ktf_call (c_row _ _ _ _ _ _ (by walk_at "my_tree") (by assumption) (by assumption))))
  (k_with "~call ref" => (k_here; (with_reducible show wpAny _ _ (call (Value.ref 444) _) _ _ _); ktf_call (c_tkind _ _ _ _ _ _ (by walk_at "my_tree") (by assumption) (by assumption))))
  (k_with "~call ref" => (k_here; (with_reducible show wpAny _ _ (call (Value.ref 451) _) _ _ _); ktf_call (c_tname _ _ _ _ _ _ (by walk_at "my_tree") (by assumption) (by assumption))))
  (k_with "~call ref" => (k_here; (with_reducible show wpAny _ _ (call (Value.ref 472) _) _ _ _); ktf_call (c_tvalue _ _ _ _ _ _ (by walk_at "my_tree") (by assumption) (by assumption))))
  (k_with "~call ref" => (k_here; (with_reducible show wpAny _ _ (call (Value.ref 486) _) _ _ _); ktf_call (c_children _ _ _ _ _ _ (by walk_at "my_tree") (by assumption) (by assumption))))
  (k_with "~call ref" => (k_here; (with_reducible show wpAny _ _ (call (Value.ref 493) _) _ _ _); ktf_call (c_attributes _ _ _ _ _ _ (by walk_at "my_tree") (by assumption) (by assumption))))
  (k_with "~call ref" => (k_here; (with_reducible show wpAny _ _ (call (Value.ref 451) _) _ _ _); ktf_call (c_tnameX _ _ _ _ _ _ _ (by walk_at "my_tree") (by assumption) (by assumption) (by first | assumption | exact rfl))))
  (k_with "k_ne" => (refine neN ?_; (try dsimp only); first | assumption | exact Ne.symm (by assumption) | (refine Nat.ne_of_lt ?_; walk_at "my_lt") | (refine Nat.ne_of_gt ?_; walk_at "my_lt") | omega | exact ne_of_mem (by assumption) (by k_mem) | exact Ne.symm (ne_of_mem (by assumption) (by k_mem))))
  (k_with "~exec While Compare cons nil" => (k_here; (rename Fr _ _ _ _ => lF'z9); (with_unfolding_all refine' while_any lF'z9 ?_); walk_say "MY WHILE"))
  (k_with "~my_ints" => first | exact IntsIn.of _ | exact IntsIn.nil | exact IntsIn.snoc _ _ _)
  (k_with "~compareOp Eq ref ref" => (k_here; k_dflt (refine' eq_ints (by k_asm) (by k_mem) (by k_mem) (by walk_at "my_ints") (by walk_at "my_ints") (by k_units) ?_)))
  (k_with "~compareOp NotEq ref ref" => (k_here; k_dflt (refine' ne_ints (by k_asm) (by k_mem) (by k_mem) (by walk_at "my_ints") (by walk_at "my_ints") (by k_units) ?_)))
  (k_with "~my_size" => (simp only [List.size_toArray, strValues, intVals, refVals, List.length_map, Array.length_toList, List.length_append, List.length_reverse, List.length_dropLast, List.length_cons, List.length_nil, sizeLine_eq]; omega))
  (k_with "~call builtin:list.append" => (k_here; (with_reducible show wpAny _ _ (call (Value.builtin _) [Value.ref _, _]) _ _ _); k_dflt (refine' append_my (by k_asm) (by k_asm) (by k_upd) (by walk_at "my_size") ?_); intro h'z9 F'z9 N'z9; (try k_sweep)))
  (k_with "~call builtin:list.pop" => (k_here; (with_reducible show wpAny _ _ (call (Value.builtin _) [Value.ref _]) _ _ _); k_dflt (refine' pop_my (by k_asm) (by k_asm) (by k_upd) (by walk_at "my_size") ?_); intro h'z9 F'z9 N'z9; (try k_sweep)))
  (k_with "~call builtin:list.extend" => (k_here; (with_reducible show wpAny _ _ (call (Value.builtin _) [Value.ref _, Value.ref _]) _ _ _); k_dflt (refine' extend_my (by k_asm) (by k_asm) (by k_mem) (by (intro k8z9; k_upd)) (by walk_at "my_size") ?_); intro k9z9 h'z9 F'z9 N'z9; (try dsimp only at N'z9); (try k_sweep)))
  (k_with "~subscriptTail Name Slice ref ref" => (k_here; (with_reducible show wpAny _ _ (subscriptTail _ (PySem.Expr.Slice none none (some _) _) (Value.ref _) (Value.ref _)) _ _ _); k_dflt (refine' rev_my (by k_asm) (by k_asm) (by exact News.isList (by k_asm) (by k_mem)) (by exact IsPart.int _ _) (by with_unfolding_all rfl) (by kmk_pure) (by walk_at "my_size") ?_); intro D'z9 h'z9 F'z9 N'z9 l1z9; (try k_lt l1z9); (try k_sweep)))
  (k_with "~my_dtd" => first | assumption | (refine DtdIn.mono ?_ (by assumption); walk_at "my_sub"))
  (k_with "~call ref" => (k_here; (with_reducible show wpAny _ _ (call (Value.ref 289) _) _ _ _); ktf_call (c_idname _ _ _ _ (by walk_at "my_dtd"))))
  (k_with "~call ref" => (k_here; (with_reducible show wpAny _ _ (call (Value.ref 277) _) _ _ _); ktf_call (c_rule _ _ _ _ _ _ _ (by walk_at "my_dtd") (by assumption))))
  (k_with "~ite" => first | refine ite_pos (by simp only [List.append_eq_nil_iff, reduceCtorEq, and_false, decide_false, Bool.not_false]; done) ?_)
  (k_with "k_room" => ktr_room)
  (k_with "~my_dummy" => skip)
  trivial
set_option maxHeartbeats 8000000 in
theorem c_walk (w : World) (T : TreeS) (nd0 : Nd) (tk : Tok) (order : List Nat) (news : Led) (hT : TreeIn news T) (hz : TOk T) (hn : T.nodes[0]? = some nd0) (hw : WalksT T (nd0.kids.map (·.1)).reverse order) (ho : order.length ≤ 100) :
    Con w 5 156 [.ref T.t, .int (((0 : Nat) : Nat) : Int) tk] news (fun news' r => ∃ a n l, l.map (·.1) = order ∧ (∀ p ∈ news, p.1 ≠ a) ∧ r = .ref a ∧ news' = (a, listOf (intVals l).toArray n) :: news) := by
  have g1 := hT.i
  have g2 := hT.d
  have hk0 := (hz.2 nd0 (List.mem_of_getElem? hn)).1
  unfold Con; k_fill; intro loose mean mg mb dp un gd cn cs a ccd cl outer A₀ base h₀ L m s Q E B F X N Tp hk hdp hun hret; walk_at "my_enter"
  k_steps
  (try walk_at "my_fold")
  rename News _ _ _ _ => N1
  rw [intVals_reverse] at N1
  refine WhileAny.start (fun m₀ K => ∀ m₁ fa la kf kl lf ll rest, (∀ p ∈ news, p.1 ≠ fa) → (∀ p ∈ news, p.1 ≠ la) → @Ne Nat fa la →
    m₁ (Str.ofString "tree") = some (.ref T.t) → m₁ (Str.ofString "left") = some (.ref la) → m₁ (Str.ofString "found") = some (.ref fa) → order = lf.map (·.1) ++ rest → WalksT T (ll.map (·.1)) rest → K rest.length m₁ ((fa, listOf (intVals lf).toArray kf) :: (la, listOf (intVals ll).toArray kl) :: news)) (by k_asm)
    (cb_drop (news := (_, listOf (intVals []).toArray 0) :: (_, listOf (intVals nd0.kids.reverse).toArray 0) :: news) N1 (by walk_at "my_sub"))
    (fun K k => by exact k _ _ _ _ _ [] _ order (by walk_at "my_fresh") (by walk_at "my_fresh") (by k_ne) rfl rfl rfl rfl (by rw [List.map_reverse]; exact hw)) ?_
  intro m₁ fa la kf kl lf ll rest hfa hla hne hm1 hm2 hm3 hord hW h₁ tk₁ F₁ N₁
  (try walk_at "my_fold")
  have hlf : lf.length ≤ 100 := by have := congrArg List.length hord; rw [List.length_append, List.length_map] at this; omega
  generalize hx : ll.map (·.1) = xs at hW
  cases hW with
  | nil =>
    have hll : ll = [] := List.map_eq_nil_iff.mp hx
    subst hll
    k_steps
    exact hret _ _ _ _ (by k_asm) (cb_drop (by k_asm) (by walk_at "my_sub")) ⟨fa, kf, lf, by rw [hord, List.append_nil], hfa, rfl, rfl⟩
  | cons hk1 hk2 hl hW =>
    rename Nd => nd
    obtain ⟨l0, p, rfl⟩ := snoc_of (l := ll) (fun e => by rw [e] at hx; simp at hx)
    rw [List.map_append] at hx
    obtain ⟨e1, e2⟩ := List.append_inj' hx rfl
    simp only [List.map_cons, List.map_nil, List.cons.injEq, and_true] at e2
    subst e2 e1
    rw [intVals_snoc] at N₁
    have hkb : (nd.kind == Str.ofString "element") = true := by rw [hk2]; simp
    have hkl := (hz.2 nd (List.mem_of_getElem? hk1)).1
    rw [List.length_map] at hl
    k_steps
    exact WhileStep2.end (news' := (fa, listOf (intVals (lf ++ [p])).toArray _) :: (la, listOf (intVals (l0 ++ nd.kids.reverse)).toArray _) :: news) (by k_asm) (by k_asm) (by rw [intVals_snoc, intVals_append, ← intVals_reverse]; walk_at "my_sub") (Nat.lt_succ_self _) (fun K k => by exact k _ fa la _ _ (lf ++ [p]) (l0 ++ nd.kids.reverse) _ hfa hla hne hm1 hm2 hm3 (by rw [hord]; simp) (by rw [List.map_append, List.map_reverse]; exact hW))
end

-- id_of
def toldP (ats : List (Nat × Str × Str)) : Option Str := match ats.find? (fun q => q.2.1 == Str.ofString "i") with
  | none => none
  | some q => match partB q.2.2 with
    | [x] => some x
    | _ => none
def AttrsOk (T : TreeS) (nd : Nd) (ats : List (Nat × Str × Str)) : Prop := nd.attrs.map (·.1) = ats.map (·.1) ∧ ∀ q ∈ ats, ∃ an, T.nodes[q.1]? = some an ∧ an.name = q.2.1 ∧ an.val = q.2.2
theorem intAtL {l : List (Nat × Tok)} {i : Nat} {v : Value} (h : (intVals l)[i]? = some v) : ∃ p, l[i]? = some p ∧ v = .int ((p.1 : Nat) : Int) p.2 := by
  unfold intVals at h
  rw [List.getElem?_map] at h
  cases e : l[i]? with
  | none => rw [e] at h; cases h
  | some p => rw [e] at h; exact ⟨p, rfl, (Option.some.inj h).symm⟩
theorem AttrsOk.at {T : TreeS} {nd : Nd} {ats : List (Nat × Str × Str)} (h : AttrsOk T nd ats) {i : Nat} {p : Nat × Tok} (hp : nd.attrs[i]? = some p) : ∃ q an, ats[i]? = some q ∧ q.1 = p.1 ∧ T.nodes[p.1]? = some an ∧ an.name = q.2.1 ∧ an.val = q.2.2 := by
  have := map_at (f := fun q : Nat × Tok => q.1) h.1 hp
  rw [List.getElem?_map] at this
  cases e : ats[i]? with
  | none => rw [e] at this; cases this
  | some q =>
    rw [e] at this
    obtain ⟨an, h1, h2, h3⟩ := h.2 q (List.mem_of_getElem? e)
    have hq : q.1 = p.1 := Option.some.inj this
    exact ⟨q, an, rfl, hq, hq ▸ h1, h2, h3⟩
theorem c_wordsI (w : World) (x : Str) (t u : Tok) (news : Led) (hx : x.cps.size ≤ 1000) : Con w 2 135 [.str (Str.ofString "IDREFS") u, .str x t] news (fun news' r => ∃ a n ws, ws.map (·.1) = partB x ∧ (∀ p ∈ news, p.1 ≠ a) ∧ r = .ref a ∧ news' = (a, listOf (strValues ws).toArray n) :: news) :=
  c_wordsB w (Str.ofString "IDREFS") x t u news (by decide +kernel) hx
theorem find_none_take {α : Type} {f : α → Bool} {l : List α} {i : Nat} {q : α} (h : (l.take i).all (fun x => !f x) = true) (hq : l[i]? = some q) (hf : f q = true) : l.find? f = some q := by
  have hl : l = l.take i ++ q :: l.drop (i + 1) := by
    have hi := (List.getElem?_eq_some_iff.mp hq)
    obtain ⟨h1, h2⟩ := hi
    rw [← h2, List.getElem_cons_drop, List.take_append_drop]
  rw [hl, List.find?_append]
  have e : (l.take i).find? f = none := by
    rw [List.find?_eq_none]
    intro x hx
    have := List.all_eq_true.mp h x hx
    simpa using this
  rw [e, Option.none_or, List.find?_cons_of_pos hf]
section
theorem w24 : True := by
  k_with_none
  (k_with "~my_fold" => ((fail_if_success (fail_if_success k_fold)); (refine (let qk := _; (?_ : wpAny _ _ _ qk _ _)))))
  (k_with "~my_state" => ((fail_if_success (fail_if_success (conv => arg 6; pattern PySem.Shared.mk _ _ _ _ _))); (refine (let sk := _; (?_ : wpAny _ _ _ _ _ sk)))))
  (k_with "~my_around" => ((try refine (let vk := _; (?_ : wpAny _ _ (execs _ vk) _ _ _))); (refine (let ak := _; (?_ : wpAny _ ak _ _ _ _)))))
  (k_with "~my_enter" => (refine wpAny_call ?_; k_dflt ktr_enter; (try walk_at "my_around")))
  (k_with "~use2" => (
  (first | (refine post00 ?_; intro h9z9 tk9z9 F9z9 N9z9) | (refine post10 ?_; intro x1z9 h9z9 tk9z9 F9z9 N9z9) | (refine post20 ?_; intro x1z9 x2z9 h9z9 tk9z9 F9z9 N9z9) | (refine post21 ?_; intro x1z9 x2z9 q1z9 h9z9 tk9z9 F9z9 N9z9) | (refine post22 ?_; intro x1z9 x2z9 q1z9 q2z9 h9z9 tk9z9 F9z9 N9z9) | (refine post31 ?_; intro x1z9 x2z9 x3z9 q1z9 h9z9 tk9z9 F9z9 N9z9) | (refine post32 ?_; intro x1z9 x2z9 x3z9 q1z9 q2z9 h9z9 tk9z9 F9z9 N9z9) | (refine post33 ?_; intro x1z9 x2z9 x3z9 q1z9 q2z9 q3z9 h9z9 tk9z9 F9z9 N9z9) | (refine post41 ?_; intro x1z9 x2z9 x3z9 x4z9 q1z9 h9z9 tk9z9 F9z9 N9z9))
  (try walk_at "my_fold")
  (try dsimp only)
  (try k_sweep)
  (try walk_at "my_fold")))
  (k_with "~my_tail" => first | assumption | (refine' List.mem_cons_of_mem _ ?_; walk_at "my_tail"))
  (k_with "~my_sub" => first | exact fun _ hpz9 => hpz9 | exact List.forall_mem_nil _ | (refine' List.forall_mem_cons.mpr ⟨?_, ?_⟩; k_mem; walk_at "my_sub") | (intro pz9 hpz9; walk_at "my_tail"))
  (k_with "k_units" => ktr_units)
  (k_with "k_mem" => first | exact List.mem_cons_self | ktr_member | (refine' List.mem_cons_of_mem _ ?_; k_mem))
  (k_with "~my_and" => first | assumption | (refine And.right ?_; walk_at "my_and"))
  (k_with "~my_fresh" => first | assumption | exact ne_of_lts (by assumption) | exact ne_of_allLt (by first | assumption | exact And.right (by assumption) | exact And.right (And.right (by assumption)) | exact And.right (And.right (And.right (by assumption))) | exact And.right (And.right (And.right (And.right (by assumption)))) | exact And.right (And.right (And.right (And.right (And.right (by assumption))))) | exact And.right (And.right (And.right (And.right (And.right (And.right (by assumption)))))) | exact And.right (And.right (And.right (And.right (And.right (And.right (And.right (by assumption))))))) | exact And.right (And.right (And.right (And.right (And.right (And.right (And.right (And.right (by assumption))))))))))
  (k_with "~my_off" => first | assumption | exact List.forall_mem_nil _ | (refine' List.forall_mem_cons.mpr ⟨?_, ?_⟩; (first | k_ne | exact (by assumption : ∀ pz9 ∈ (_ : Led), pz9.1 ≠ _) _ (by k_mem)); walk_at "my_off") | (intro pz9 hpz9; first | exact (by assumption : ∀ pz9 ∈ (_ : Led), pz9.1 ≠ _) pz9 hpz9 | exact (by assumption : ∀ pz9 ∈ (_ : Led), pz9.1 ≠ _) pz9 (by walk_at "my_tail") | (have h9z9 := ltN ((by assumption : ∀ pz9 ∈ (_ : Led), pz9.1 < _) pz9 hpz9); refine neN ?_; omega)))
  (k_with "k_all" => walk_at "my_off")
  (k_with "~my_lt" => first | assumption | exact And.left (by assumption) | exact And.left (And.right (by assumption)) | exact And.left (And.right (And.right (by assumption))) | exact And.left (And.right (And.right (And.right (by assumption)))) | exact And.left (And.right (And.right (And.right (And.right (by assumption))))) | exact And.left (And.right (And.right (And.right (And.right (And.right (by assumption)))))) | exact And.left (And.right (And.right (And.right (And.right (And.right (And.right (by assumption))))))) | exact And.left (And.right (And.right (And.right (And.right (And.right (And.right (And.right (by assumption)))))))) | exact And.left (And.right (And.right (And.right (And.right (And.right (And.right (And.right (And.right (by assumption))))))))) | exact And.left (And.right (And.right (And.right (And.right (And.right (And.right (And.right (And.right (And.right (by assumption)))))))))) | exact And.left (And.right (And.right (And.right (And.right (And.right (And.right (And.right (And.right (And.right (And.right (by assumption))))))))))) | exact And.left (And.right (And.right (And.right (And.right (And.right (And.right (And.right (And.right (And.right (And.right (And.right (by assumption)))))))))))) | exact And.left (And.right (And.right (And.right (And.right (And.right (And.right (And.right (And.right (And.right (And.right (And.right (And.right (by assumption))))))))))))) | exact And.left (And.right (And.right (And.right (And.right (And.right (And.right (And.right (And.right (And.right (And.right (And.right (And.right (And.right (by assumption)))))))))))))) | exact And.left (And.right (And.right (And.right (And.right (And.right (And.right (And.right (And.right (And.right (And.right (And.right (And.right (And.right (And.right (by assumption))))))))))))))) | exact And.left (And.right (And.right (And.right (And.right (And.right (And.right (And.right (And.right (And.right (And.right (And.right (And.right (And.right (And.right (And.right (by assumption)))))))))))))))))
  (k_with "k_ne" => (refine neN ?_; (try dsimp only); first | assumption | exact Ne.symm (by assumption) | (refine Nat.ne_of_lt ?_; walk_at "my_lt") | (refine Nat.ne_of_gt ?_; walk_at "my_lt") | omega))
  (k_with "~my_for" => (k_here; (rename Fr _ _ _ _ => lF'z9); (with_unfolding_all refine' for_any lF'z9 ?_); (try walk_at "my_fold"); walk_say "MY FOR"))
  (k_with "~my_look" => first | with_reducible assumption | rfl | assumption)
  (k_with "~exec For Name Name cons nil" => walk_at "my_for")
  (k_with "~exec For Name Call cons nil" => walk_at "my_for")
  (k_with "~exec For Name List cons nil" => walk_at "my_for")
  (k_with "~exec For Tuple Name cons nil" => walk_at "my_for")
  (k_with "~exec For Tuple Call cons nil" => walk_at "my_for")
  (k_with "~exec For Name BinOp cons nil" => walk_at "my_for")
  (k_with "~TurnA" => (dsimp only [TurnA]))
  (k_with "~eval ListComp" => (k_here; k_dflt (refine' comp_any (by k_asm) (by with_unfolding_all rfl) (by decide) (by rfl) (by decide) (by decide) ?_); (try k_fold); walk_say "MY COMP"))
  (k_with "~exec Assign cons ListComp" => (k_here; k_dflt (refine' comp_assign (by k_asm) (by rfl) (by with_unfolding_all rfl) (by with_unfolding_all rfl) (by decide) (by rfl) (by decide) (by rfl) (by rfl) (by decide) ?_); (try k_fold); walk_say "MY COMP"))
  (k_with "~TestElt" => (dsimp only [TestElt]; (try k_fold)))
  (k_with "~compareOp In str ref" => (k_here; k_dflt (refine' in_tuple_strs (tupK (by k_in) (by k_is)) (by repeat constructor) ?_)))
  (k_with "~compareOp In str ref" => (k_here; k_dflt (refine' in_tuple_strs (News.isTup (by k_asm) (by k_mem)) (by repeat constructor) ?_)))
  (k_with "~my_strs" => first | exact StrsIn.of _ | exact StrsIn.nil | exact StrsIn.one _ _)
  (k_with "~compareOp Eq ref ref" => (k_here; k_dflt (refine' eq_strs (by k_asm) (by k_mem) (by k_mem) (by walk_at "my_strs") (by walk_at "my_strs") (by k_units) ?_)))
  (k_with "~compareOp NotEq ref ref" => (k_here; k_dflt (refine' ne_strs (by k_asm) (by k_mem) (by k_mem) (by walk_at "my_strs") (by walk_at "my_strs") (by k_units) ?_)))
  (k_with "~my_size" => (simp only [List.size_toArray, strValues, List.length_map, Array.length_toList, List.length_append, List.length_dropLast, List.length_cons, List.length_nil, sizeLine_eq]; omega))
  (k_with "~subscriptTail Name Slice ref ref" => (k_here; (with_reducible show wpAny _ _ (subscriptTail _ (PySem.Expr.Slice none _ none _) (Value.ref _) (Value.ref _)) _ _ _); k_dflt (refine' kms_slice_lit (by k_asm) (by k_asm) (by exact News.isList (by k_asm) (by k_mem)) (by kmk_part) (by kmk_part) (by exact pick_dropLast _) ?_ (by with_unfolding_all rfl) (by kmk_pure) (by walk_at "my_size")); intro D'z9 h'z9 F'z9 N'z9 l1z9; (try k_lt l1z9); (try k_sweep)))
  (k_with "~subscriptTail Name UnaryOp ref int" => (k_here; (with_reducible show wpAny _ _ (subscriptTail _ _ (Value.ref _) (Value.int _ _)) _ _ _); k_dflt (refine' item_last (by exact News.isList (by k_asm) (by k_mem)) (by assumption) ?_)))
  (k_with "~binaryOp Add ref ref" => (k_here; k_dflt (refine' kmk_add_lit (by k_asm) (by k_asm) (by exact News.isList (by k_asm) (by k_mem)) (by exact News.isList (by k_asm) (by k_mem)) (by first | exact add_one _ _ _ | exact add_two _ _) ?_ (by walk_at "my_size")); intro D'z9 h'z9 F'z9 N'z9 l1z9; (try k_lt l1z9); (try k_sweep)))
  (k_with "~call ref" => (k_here; (with_reducible show wpAny _ _ (call (Value.ref 52) _) _ _ _); ktf_call (c_small _ _ _ _)))
  (k_with "~my_signs" => (law_clear; simp only [s_a, s_z, s_A, s_Z, s_0, s_9, lt1, str1_eq, e_us, e_co, e_mi, e_do, smallB_iff, startB_iff, charB_iff, ← decide_not, decide_eq_decide, decide_eq_true_eq, decide_eq_false_iff_not, decide_eq_true_eq, eq_comm (a := true), Bool.not_eq_true, Bool.not_eq_false] at *; omega))
  (k_with "~call ref" => (k_here; (with_reducible show wpAny _ _ (call (Value.ref 59) _) _ _ _); ktf_call (c_start _ _ _ _ (by assumption))))
  (k_with "~call ref" => (k_here; (with_reducible show wpAny _ _ (call (Value.ref 66) _) _ _ _); ktf_call (c_char _ _ _ _ (by assumption))))
  (k_with "~call ref" => (k_here; (with_reducible show wpAny _ _ (call (Value.ref 73) _) _ _ _); ktf_call (c_nmtoken _ _ _ _ (by assumption))))
  (k_with "~call ref" => (k_here; (with_reducible show wpAny _ _ (call (Value.ref 80) _) _ _ _); ktf_call (c_name _ _ _ _ (by assumption))))
  (k_with "~call ref" => (k_here; (with_reducible show wpAny _ _ (call (Value.ref 121) _) _ _ _); ktf_call (c_blank _ _ _ _ (by assumption))))
  (k_with "~call ref" => (k_here; (with_reducible show wpAny _ _ (call (Value.ref 128) _) _ _ _); ktf_call (c_norm _ _ _ _ _ _ (by assumption))))
  (k_with "~call ref" => (k_here; (with_reducible show wpAny _ _ (call (Value.ref 135) _) _ _ _); ktf_call (c_words _ _ _ _ _ _ (by assumption))))
  (k_with "~call ref" => (k_here; (with_reducible show wpAny _ _ (call (Value.ref 142) _) _ _ _); ktf_call (c_isword _ _ _ _ _ _ (by assumption))))
  (k_with "~call ref" => (k_here; (with_reducible show wpAny _ _ (call (Value.ref 149) _) _ _ _); ktf_call (c_fits _ _ _ _ _ _ _ _ _ _ _ _ _ _ _ _ _ _ _ _ (by assumption) (by assumption) (by k_mem) (by k_mem) (by k_mem) (by assumption))))
  (k_with "~call ref" => (k_here; (with_reducible show wpAny _ _ (call (Value.ref 566) _) _ _ _); ktf_call (c_lawword _ _ _ _ _ (by assumption) (by assumption))))
  (k_with "~call ref" => (k_here; (with_reducible show wpAny _ _ (call (Value.ref 561) _) _ _ _); ktf_call (c_parted _ _ _ _ (by assumption) (by assumption))))
  (k_with "~call builtin:len" => (k_here; (with_reducible show wpAny _ _ (call (Value.builtin _) [Value.ref _]) _ _ _); k_dflt (refine' len_at (by exact News.isList (by k_asm) (by k_mem)) (by first | omega | ((simp only [List.length_cons, List.length_nil, List.length_append, List.length_map, strValues]); omega)) ?_)))
  (k_with "~my_pick" => first | exact Pick.head | (refine' Pick.tail (by walk_at "my_pick")))
  (k_with "~call ref" => (k_here; (with_reducible show wpAny _ _ (call (Value.ref 542) _) _ _ _); ktr_call (c_take _ _ _ _ _ _ (by assumption) (by first | assumption | decide) (by first | assumption | decide) (by walk_at "my_off")) ()))
  (k_with "~call ref" => (k_here; (with_reducible show wpAny _ _ (call (Value.ref 549) _) _ _ _); ktr_call (c_one _ _ _ _ _ _ _ (by assumption) (by k_mem) (by first | assumption | exact Nat.le_of_ble_eq_true rfl) (by first | assumption | exact Nat.le_of_ble_eq_true rfl) (by walk_at "my_off")) ()))
  (k_with "~call ref" => (k_here; (with_reducible show wpAny _ _ (call (Value.ref 554) _) _ _ _); ktr_call (c_value _ _ _ _ (by assumption) (by walk_at "my_off")) ()))
  (k_with "~call ref" => (k_here; (with_reducible show wpAny _ _ (call (Value.ref 571) _) _ _ _); ktf_call (c_kind _ _ _ _ _ _ (by first | assumption | decide +kernel) (by k_asm))))
  (k_with "~my_tree" => first | assumption | (refine TreeIn.mono ?_ (by assumption); walk_at "my_sub"))
  (k_with "~call ref" => (k_here; (with_reducible show wpAny _ _ (call (Value.ref 367) _) _ _ _); ktf_call (c_row _ _ _ _ _ _ (by walk_at "my_tree") (by assumption) (by assumption))))
  (k_with "~call ref" => (k_here; (with_reducible show wpAny _ _ (call (Value.ref 444) _) _ _ _); ktf_call (c_tkind _ _ _ _ _ _ (by walk_at "my_tree") (by assumption) (by assumption))))
  (k_with "~call ref" => (k_here; (with_reducible show wpAny _ _ (call (Value.ref 451) _) _ _ _); ktf_call (c_tname _ _ _ _ _ _ (by walk_at "my_tree") (by assumption) (by assumption))))
  (k_with "~call ref" => (k_here; (with_reducible show wpAny _ _ (call (Value.ref 472) _) _ _ _); ktf_call (c_tvalue _ _ _ _ _ _ (by walk_at "my_tree") (by assumption) (by assumption))))
  (k_with "~call ref" => (k_here; (with_reducible show wpAny _ _ (call (Value.ref 486) _) _ _ _); ktf_call (c_children _ _ _ _ _ _ (by walk_at "my_tree") (by assumption) (by assumption))))
  (k_with "~call ref" => (k_here; (with_reducible show wpAny _ _ (call (Value.ref 493) _) _ _ _); ktf_call (c_attributes _ _ _ _ _ _ (by walk_at "my_tree") (by assumption) (by assumption))))
  (k_with "~call ref" => (k_here; (with_reducible show wpAny _ _ (call (Value.ref 451) _) _ _ _); ktf_call (c_tnameX _ _ _ _ _ _ _ (by walk_at "my_tree") (by assumption) (by assumption) (by first | assumption | exact rfl))))
  (k_with "k_ne" => (refine neN ?_; (try dsimp only); first | assumption | exact Ne.symm (by assumption) | (refine Nat.ne_of_lt ?_; walk_at "my_lt") | (refine Nat.ne_of_gt ?_; walk_at "my_lt") | omega | exact ne_of_mem (by assumption) (by k_mem) | exact Ne.symm (ne_of_mem (by assumption) (by k_mem))))
  (k_with "~exec While Compare cons nil" => (k_here; (rename Fr _ _ _ _ => lF'z9); (with_unfolding_all refine' while_any lF'z9 ?_); walk_say "MY WHILE"))
  (k_with "~my_ints" => first | exact IntsIn.of _ | exact IntsIn.nil | exact IntsIn.snoc _ _ _)
  (k_with "~compareOp Eq ref ref" => (k_here; k_dflt (refine' eq_ints (by k_asm) (by k_mem) (by k_mem) (by walk_at "my_ints") (by walk_at "my_ints") (by k_units) ?_)))
  (k_with "~compareOp NotEq ref ref" => (k_here; k_dflt (refine' ne_ints (by k_asm) (by k_mem) (by k_mem) (by walk_at "my_ints") (by walk_at "my_ints") (by k_units) ?_)))
  (k_with "~my_size" => (simp only [List.size_toArray, strValues, intVals, refVals, List.length_map, Array.length_toList, List.length_append, List.length_reverse, List.length_dropLast, List.length_cons, List.length_nil, sizeLine_eq]; omega))
  (k_with "~call builtin:list.append" => (k_here; (with_reducible show wpAny _ _ (call (Value.builtin _) [Value.ref _, _]) _ _ _); k_dflt (refine' append_my (by k_asm) (by k_asm) (by k_upd) (by walk_at "my_size") ?_); intro h'z9 F'z9 N'z9; (try k_sweep)))
  (k_with "~call builtin:list.pop" => (k_here; (with_reducible show wpAny _ _ (call (Value.builtin _) [Value.ref _]) _ _ _); k_dflt (refine' pop_my (by k_asm) (by k_asm) (by k_upd) (by walk_at "my_size") ?_); intro h'z9 F'z9 N'z9; (try k_sweep)))
  (k_with "~call builtin:list.extend" => (k_here; (with_reducible show wpAny _ _ (call (Value.builtin _) [Value.ref _, Value.ref _]) _ _ _); k_dflt (refine' extend_my (by k_asm) (by k_asm) (by k_mem) (by (intro k8z9; k_upd)) (by walk_at "my_size") ?_); intro k9z9 h'z9 F'z9 N'z9; (try dsimp only at N'z9); (try k_sweep)))
  (k_with "~subscriptTail Name Slice ref ref" => (k_here; (with_reducible show wpAny _ _ (subscriptTail _ (PySem.Expr.Slice none none (some _) _) (Value.ref _) (Value.ref _)) _ _ _); k_dflt (refine' rev_my (by k_asm) (by k_asm) (by exact News.isList (by k_asm) (by k_mem)) (by exact IsPart.int _ _) (by with_unfolding_all rfl) (by kmk_pure) (by walk_at "my_size") ?_); intro D'z9 h'z9 F'z9 N'z9 l1z9; (try k_lt l1z9); (try k_sweep)))
  (k_with "~my_dtd" => first | assumption | (refine DtdIn.mono ?_ (by assumption); walk_at "my_sub"))
  (k_with "~call ref" => (k_here; (with_reducible show wpAny _ _ (call (Value.ref 289) _) _ _ _); ktf_call (c_idname _ _ _ _ (by walk_at "my_dtd"))))
  (k_with "~call ref" => (k_here; (with_reducible show wpAny _ _ (call (Value.ref 277) _) _ _ _); ktf_call (c_rule _ _ _ _ _ _ _ (by walk_at "my_dtd") (by assumption))))
  (k_with "~call ref" => (k_here; (with_reducible show wpAny _ _ (call (Value.ref 156) _) _ _ _); ktf_call (c_walk _ _ _ _ _ _ (by walk_at "my_tree") (by assumption) (by assumption) (by assumption) (by assumption))))
  (k_with "k_room" => ktr_room)
  (k_with "~my_dummy" => skip)
  (k_with "~call ref" => (k_here; (with_reducible show wpAny _ _ (call (Value.ref 135) _) _ _ _); ktf_call (c_wordsI _ _ _ _ _ (by assumption))))
  trivial
set_option maxHeartbeats 8000000 in
theorem c_idof (w : World) (T : TreeS) (D : DtdS) (nd : Nd) (k : Nat) (tk : Tok) (ats : List (Nat × Str × Str)) (news : Led) (hT : TreeIn news T) (hD : DtdIn w news D) (hz : TOk T) (hn : T.nodes[k]? = some nd) (hnm : nd.name = Str.ofString "e") (hat : AttrsOk T nd ats) :
    Con w 7 163 [.ref T.t, .int ((k : Nat) : Int) tk, .ref D.o] news (fun news' r => news' = news ∧ ((toldP ats = none ∧ r = .none) ∨ ∃ x t, toldP ats = some x ∧ r = .str x t)) := by
  have g1 := hT.i
  have g2 := hT.d
  have d1 := hD.i
  have d2 := hD.d
  unfold Con; k_fill; intro loose mean mg mb dp un gd cn cs a ccd cl outer A₀ base h₀ L m s Q E B F X N Tp hk hdp hun hret; walk_at "my_enter"
  k_steps
  (try walk_at "my_fold")
  refine iter_list (fun m₀ n₀ i K => ∀ m₁, m₁ (Str.ofString "tree") = some (.ref T.t) → (∃ t, m₁ (Str.ofString "name") = some (.str (Str.ofString "i") t)) → ((ats.take i).all fun q => !(q.2.1 == Str.ofString "i")) = true → K m₁ n₀) rfl (by k_asm) (by k_asm) (.inr ⟨_, List.mem_cons_self, rfl, _, rfl⟩) (fun K k => by exact k _ rfl ⟨_, rfl⟩ rfl) ?_ ?_
  · intro I i v hv
    intro m₁ hm1 hm2' hall oI h tk S off F₁ N₁
    (try walk_at "my_fold")
    obtain ⟨p, hp, rfl⟩ := intAtL (by simpa using hv)
    obtain ⟨q, an, hq, hq1, han, han1, han2⟩ := hat.at hp
    have hvz : an.val.cps.size ≤ 1000 := by have := (hz.2 an (List.mem_of_getElem? han)).2.2.2; omega
    obtain ⟨tn, hm2⟩ := hm2'
    k_steps
    · rename List.map _ _ = partB _ => hws
      rename (q.2.1 == _) = true => hqi
      have hf : ats.find? (fun q => q.2.1 == Str.ofString "i") = some q := find_none_take hall hq hqi
      have htold : toldP ats = match partB an.val with | [x] => some x | _ => none := by unfold toldP; rw [hf]; dsimp only; rw [han2]
      rename List (Str × Tok) => ws
      rw [← hws] at htold
      have hwl := part_len hvz
      rw [← hws, List.length_map] at hwl
      have hwl2 : (strValues ws).length ≤ 1001 := by rw [strValues_len]; exact hwl
      rcases ws with _ | ⟨p0, _ | ⟨p1, ws⟩⟩
      · k_steps
        exact hret _ _ _ _ (by k_asm) (cb_drop (by k_asm) (by walk_at "my_sub")) ⟨rfl, .inl ⟨htold, rfl⟩⟩
      · k_steps
        · exact hret _ _ _ _ (by k_asm) (cb_drop (by k_asm) (by walk_at "my_sub")) ⟨rfl, .inr ⟨p0.1, p0.2, htold, rfl⟩⟩
        · rename _ ≠ (1 : Int) => hq9
          exact absurd rfl hq9
      · k_steps
        · rename _ = (1 : Int) => hq9
          rw [strValues_len] at hq9
          simp only [List.length_cons] at hq9
          omega
        · exact hret _ _ _ _ (by k_asm) (cb_drop (by k_asm) (by walk_at "my_sub")) ⟨rfl, .inl ⟨htold, rfl⟩⟩
    · rename (q.2.1 == _) = false => hqi
      exact TE.intro (by k_asm) (by k_asm) (by walk_at "my_sub") off S (fun K k => by exact k _ hm1 ⟨tn, hm2⟩ (by rw [take_one hq, List.all_append, hall, List.all_cons, List.all_nil, hqi]; rfl))
  · intro m₁ hm1 hm2 hall h tk F₁ N₁
    have hlen : (intVals nd.attrs).toArray.size = ats.length := by rw [List.size_toArray, intVals_len]; have := congrArg List.length hat.1; simpa using this
    rw [hlen, List.take_length] at hall
    have htold : toldP ats = none := by
      unfold toldP
      have e : ats.find? (fun q => q.2.1 == Str.ofString "i") = none := by
        rw [List.find?_eq_none]; intro x hx; have := List.all_eq_true.mp hall x hx; simpa using this
      rw [e]
    k_steps
    exact hret _ _ _ _ (by k_asm) (cb_drop (by k_asm) (by walk_at "my_sub")) ⟨rfl, .inl ⟨htold, rfl⟩⟩
end
theorem c_idofN (w : World) (T : TreeS) (D : DtdS) (nd : Nd) (k : Nat) (tk : Tok) (ats : List (Nat × Str × Str)) (news : Led) (hT : TreeIn news T) (hD : DtdIn w news D) (hz : TOk T) (hn : T.nodes[k]? = some nd) (hnm : nd.name = Str.ofString "e") (hat : AttrsOk T nd ats) (h : toldP ats = none) :
    Con w 7 163 [.ref T.t, .int ((k : Nat) : Int) tk, .ref D.o] news (fun news' r => news' = news ∧ r = .none) := by
  have := c_idof w T D nd k tk ats news hT hD hz hn hnm hat
  unfold Con at this ⊢
  intro loose mean mg mb dp un gd cn cs a ccd cl outer A₀ base h₀ L m s Q E B F X N T hk hdp hun hret
  exact this loose mean mg mb dp un gd cn cs a ccd cl outer A₀ base h₀ L m s Q E B F X N T hk hdp hun fun r n' h' tk' F' N' p => hret r n' h' tk' F' N' ⟨p.1, p.2.elim (fun q => q.2) fun ⟨x, t, q, _⟩ => by rw [h] at q; cases q⟩
theorem c_idofS (w : World) (T : TreeS) (D : DtdS) (nd : Nd) (k : Nat) (tk : Tok) (ats : List (Nat × Str × Str)) (x : Str) (news : Led) (hT : TreeIn news T) (hD : DtdIn w news D) (hz : TOk T) (hn : T.nodes[k]? = some nd) (hnm : nd.name = Str.ofString "e") (hat : AttrsOk T nd ats) (h : toldP ats = some x) :
    Con w 7 163 [.ref T.t, .int ((k : Nat) : Int) tk, .ref D.o] news (fun news' r => ∃ t, news' = news ∧ r = .str x t) := by
  have := c_idof w T D nd k tk ats news hT hD hz hn hnm hat
  unfold Con at this ⊢
  intro loose mean mg mb dp un gd cn cs a ccd cl outer A₀ base h₀ L m s Q E B F X N T hk hdp hun hret
  exact this loose mean mg mb dp un gd cn cs a ccd cl outer A₀ base h₀ L m s Q E B F X N T hk hdp hun fun r n' h' tk' F' N' p => hret r n' h' tk' F' N' (by
    rcases p.2 with ⟨q, _⟩ | ⟨y, t, q, e⟩
    · rw [h] at q; cases q
    · rw [h] at q; cases q; exact ⟨t, p.1, e⟩)

-- references
def pairsP (ats : List (Nat × Str × Str)) : List (Nat × Str) := ats.flatMap fun q => if (q.2.1 == Str.ofString "i") = true then [] else (partB q.2.2).map fun x => (q.1, x)
def pd (l : List (Nat × Str)) : List Dat := l.map fun p => .tuple [.int ((p.1 : Nat) : Int), .str p.2]
def NamesOk (ats : List (Nat × Str × Str)) : Prop := ∀ q ∈ ats, q.2.1 = Str.ofString "i" ∨ q.2.1 = Str.ofString "r" ∨ q.2.1 = Str.ofString "s"
def Fresh (tl news : Led) : Prop := ∀ p ∈ tl, ∀ q ∈ news, q.1 ≠ p.1
theorem pd_snoc (l : List (Nat × Str)) (p : Nat × Str) : pd (l ++ [p]) = pd l ++ [.tuple [.int ((p.1 : Nat) : Int), .str p.2]] := by simp [pd]
theorem pairsP_snoc (l : List (Nat × Str × Str)) (q : Nat × Str × Str) : pairsP (l ++ [q]) = pairsP l ++ (if (q.2.1 == Str.ofString "i") = true then [] else (partB q.2.2).map fun x => (q.1, x)) := by simp [pairsP]
theorem pairsP_len {l : List (Nat × Str × Str)} (h : ∀ q ∈ l, q.2.2.cps.size ≤ 1000) : (pairsP l).length ≤ 1001 * l.length := by
  induction l with
  | nil => exact Nat.le_refl _
  | cons q r ih =>
    have h1 := ih fun x hx => h x (List.mem_cons_of_mem _ hx)
    have h2 := part_len (h q List.mem_cons_self)
    have e : pairsP (q :: r) = (if (q.2.1 == Str.ofString "i") = true then [] else (partB q.2.2).map fun x => (q.1, x)) ++ pairsP r := by simp [pairsP]
    rw [e, List.length_append, List.length_cons]
    split
    · simp only [List.length_nil]; omega
    · simp only [List.length_map]; omega
theorem DatAll.snocD {led : Led} {vs : List Value} {l : List (Nat × Str)} {a : Addr} {k : Nat} {t u : Tok} {x : Str} {n : Nat} (h : DatAll led vs (pd l)) (hm : (a, ({ cls := .type "tuple", data := .seq #[.int ((k : Nat) : Int) t, .str x u] n } : Obj)) ∈ led) : DatAll led (vs ++ [.ref a]) (pd (l ++ [(k, x)])) := by
  rw [pd_snoc]
  exact h.append (DatAll.one (DatIn.tuple (vs := [.int ((k : Nat) : Int) t, .str x u]) hm (.cons (.int _ _) (.cons (.str _ _) .nil))))
def RInv (fa : Addr) (tl news : Led) (vs : List Value) (l : List (Nat × Str)) : Prop := DatAll tl vs (pd l) ∧ Fresh tl news ∧ ∀ p ∈ tl, p.1 ≠ fa
theorem RInv.nil {fa : Addr} {news : Led} : RInv fa [] news [] [] := ⟨.nil, fun _ h => (nomatch h), fun _ h => nomatch h⟩
theorem RInv.len {fa : Addr} {tl news : Led} {vs : List Value} {l : List (Nat × Str)} (h : RInv fa tl news vs l) : vs.length = l.length := by
  have := h.1.length; rw [this]; simp [pd]
theorem RInv.snoc {fa a : Addr} {tl news : Led} {vs : List Value} {l : List (Nat × Str)} {k : Nat} {t u : Tok} {x : Str} {n : Nat} (h : RInv fa tl news vs l) (h1 : ∀ p ∈ news, p.1 ≠ a) (h2 : @Ne Nat a fa) :
    RInv fa ((a, ({ cls := .type "tuple", data := .seq #[.int ((k : Nat) : Int) t, .str x u] n } : Obj)) :: tl) news (vs ++ [.ref a]) (l ++ [(k, x)]) :=
  ⟨DatAll.snocD (h.1.mono fun _ hp => List.mem_cons_of_mem _ hp) List.mem_cons_self, List.forall_mem_cons.mpr ⟨h1, h.2.1⟩, List.forall_mem_cons.mpr ⟨h2, h.2.2⟩⟩
def refK (kd : Str) : Bool := [Str.ofString "IDREF", Str.ofString "IDREFS"].any fun x => x == kd
theorem name_rule {w : World} {led : Led} {D : DtdS} (hD : DtdIn w led D) {nm : Str} (h : nm = Str.ofString "i" ∨ nm = Str.ofString "r" ∨ nm = Str.ofString "s") {G : Prop}
    (k : ∀ ra kd z, valueAt [(Str.ofString "i", Value.ref D.ri), (Str.ofString "r", Value.ref D.rr), (Str.ofString "s", Value.ref D.rs)] nm = some (.ref ra) → RuleIn led ra kd z → refK kd = !(nm == Str.ofString "i") → G) : G := by
  rcases h with rfl | rfl | rfl
  · exact k D.ri _ D.zi rfl hD.ri (by decide +kernel)
  · exact k D.rr _ D.zr rfl hD.rr (by decide +kernel)
  · exact k D.rs _ D.zs rfl hD.rs (by decide +kernel)
section
theorem w25 : True := by
  k_with_none
  (k_with "~my_fold" => ((fail_if_success (fail_if_success k_fold)); (refine (let qk := _; (?_ : wpAny _ _ _ qk _ _)))))
  (k_with "~my_state" => ((fail_if_success (fail_if_success (conv => arg 6; pattern PySem.Shared.mk _ _ _ _ _))); (refine (let sk := _; (?_ : wpAny _ _ _ _ _ sk)))))
  (k_with "~my_around" => ((try refine (let vk := _; (?_ : wpAny _ _ (execs _ vk) _ _ _))); (refine (let ak := _; (?_ : wpAny _ ak _ _ _ _)))))
  (k_with "~my_enter" => (refine wpAny_call ?_; k_dflt ktr_enter; (try walk_at "my_around")))
  (k_with "~use2" => (
  (first | (refine post00 ?_; intro h9z9 tk9z9 F9z9 N9z9) | (refine post10 ?_; intro x1z9 h9z9 tk9z9 F9z9 N9z9) | (refine post20 ?_; intro x1z9 x2z9 h9z9 tk9z9 F9z9 N9z9) | (refine post21 ?_; intro x1z9 x2z9 q1z9 h9z9 tk9z9 F9z9 N9z9) | (refine post22 ?_; intro x1z9 x2z9 q1z9 q2z9 h9z9 tk9z9 F9z9 N9z9) | (refine post31 ?_; intro x1z9 x2z9 x3z9 q1z9 h9z9 tk9z9 F9z9 N9z9) | (refine post32 ?_; intro x1z9 x2z9 x3z9 q1z9 q2z9 h9z9 tk9z9 F9z9 N9z9) | (refine post33 ?_; intro x1z9 x2z9 x3z9 q1z9 q2z9 q3z9 h9z9 tk9z9 F9z9 N9z9) | (refine post41 ?_; intro x1z9 x2z9 x3z9 x4z9 q1z9 h9z9 tk9z9 F9z9 N9z9))
  (try walk_at "my_fold")
  (try dsimp only)
  (try k_sweep)
  (try walk_at "my_fold")))
  (k_with "~my_tail" => first | assumption | (refine' List.mem_cons_of_mem _ ?_; walk_at "my_tail"))
  (k_with "~my_sub" => first | exact fun _ hpz9 => hpz9 | exact List.forall_mem_nil _ | (refine' List.forall_mem_cons.mpr ⟨?_, ?_⟩; k_mem; walk_at "my_sub") | (intro pz9 hpz9; walk_at "my_tail"))
  (k_with "k_units" => ktr_units)
  (k_with "k_mem" => first | exact List.mem_cons_self | ktr_member | (refine' List.mem_cons_of_mem _ ?_; k_mem))
  (k_with "~my_and" => first | assumption | (refine And.right ?_; walk_at "my_and"))
  (k_with "~my_fresh" => first | assumption | exact ne_of_lts (by assumption) | exact ne_of_allLt (by first | assumption | exact And.right (by assumption) | exact And.right (And.right (by assumption)) | exact And.right (And.right (And.right (by assumption))) | exact And.right (And.right (And.right (And.right (by assumption)))) | exact And.right (And.right (And.right (And.right (And.right (by assumption))))) | exact And.right (And.right (And.right (And.right (And.right (And.right (by assumption)))))) | exact And.right (And.right (And.right (And.right (And.right (And.right (And.right (by assumption))))))) | exact And.right (And.right (And.right (And.right (And.right (And.right (And.right (And.right (by assumption))))))))))
  (k_with "~my_off" => first | assumption | exact List.forall_mem_nil _ | (refine' List.forall_mem_cons.mpr ⟨?_, ?_⟩; (first | k_ne | exact (by assumption : ∀ pz9 ∈ (_ : Led), pz9.1 ≠ _) _ (by k_mem)); walk_at "my_off") | (intro pz9 hpz9; first | exact (by assumption : ∀ pz9 ∈ (_ : Led), pz9.1 ≠ _) pz9 hpz9 | exact (by assumption : ∀ pz9 ∈ (_ : Led), pz9.1 ≠ _) pz9 (by walk_at "my_tail") | (have h9z9 := ltN ((by assumption : ∀ pz9 ∈ (_ : Led), pz9.1 < _) pz9 hpz9); refine neN ?_; omega)))
  (k_with "k_all" => walk_at "my_off")
  (k_with "~my_lt" => first | assumption | exact And.left (by assumption) | exact And.left (And.right (by assumption)) | exact And.left (And.right (And.right (by assumption))) | exact And.left (And.right (And.right (And.right (by assumption)))) | exact And.left (And.right (And.right (And.right (And.right (by assumption))))) | exact And.left (And.right (And.right (And.right (And.right (And.right (by assumption)))))) | exact And.left (And.right (And.right (And.right (And.right (And.right (And.right (by assumption))))))) | exact And.left (And.right (And.right (And.right (And.right (And.right (And.right (And.right (by assumption)))))))) | exact And.left (And.right (And.right (And.right (And.right (And.right (And.right (And.right (And.right (by assumption))))))))) | exact And.left (And.right (And.right (And.right (And.right (And.right (And.right (And.right (And.right (And.right (by assumption)))))))))) | exact And.left (And.right (And.right (And.right (And.right (And.right (And.right (And.right (And.right (And.right (And.right (by assumption))))))))))) | exact And.left (And.right (And.right (And.right (And.right (And.right (And.right (And.right (And.right (And.right (And.right (And.right (by assumption)))))))))))) | exact And.left (And.right (And.right (And.right (And.right (And.right (And.right (And.right (And.right (And.right (And.right (And.right (And.right (by assumption))))))))))))) | exact And.left (And.right (And.right (And.right (And.right (And.right (And.right (And.right (And.right (And.right (And.right (And.right (And.right (And.right (by assumption)))))))))))))) | exact And.left (And.right (And.right (And.right (And.right (And.right (And.right (And.right (And.right (And.right (And.right (And.right (And.right (And.right (And.right (by assumption))))))))))))))) | exact And.left (And.right (And.right (And.right (And.right (And.right (And.right (And.right (And.right (And.right (And.right (And.right (And.right (And.right (And.right (And.right (by assumption)))))))))))))))))
  (k_with "k_ne" => (refine neN ?_; (try dsimp only); first | assumption | exact Ne.symm (by assumption) | (refine Nat.ne_of_lt ?_; walk_at "my_lt") | (refine Nat.ne_of_gt ?_; walk_at "my_lt") | omega))
  (k_with "~my_for" => (k_here; (rename Fr _ _ _ _ => lF'z9); (with_unfolding_all refine' for_any lF'z9 ?_); (try walk_at "my_fold"); walk_say "MY FOR"))
  (k_with "~my_look" => first | with_reducible assumption | rfl | assumption)
  (k_with "~exec For Name Name cons nil" => walk_at "my_for")
  (k_with "~exec For Name Call cons nil" => walk_at "my_for")
  (k_with "~exec For Name List cons nil" => walk_at "my_for")
  (k_with "~exec For Tuple Name cons nil" => walk_at "my_for")
  (k_with "~exec For Tuple Call cons nil" => walk_at "my_for")
  (k_with "~exec For Name BinOp cons nil" => walk_at "my_for")
  (k_with "~TurnA" => (dsimp only [TurnA]))
  (k_with "~eval ListComp" => (k_here; k_dflt (refine' comp_any (by k_asm) (by with_unfolding_all rfl) (by decide) (by rfl) (by decide) (by decide) ?_); (try k_fold); walk_say "MY COMP"))
  (k_with "~exec Assign cons ListComp" => (k_here; k_dflt (refine' comp_assign (by k_asm) (by rfl) (by with_unfolding_all rfl) (by with_unfolding_all rfl) (by decide) (by rfl) (by decide) (by rfl) (by rfl) (by decide) ?_); (try k_fold); walk_say "MY COMP"))
  (k_with "~TestElt" => (dsimp only [TestElt]; (try k_fold)))
  (k_with "~compareOp In str ref" => (k_here; k_dflt (refine' in_tuple_strs (tupK (by k_in) (by k_is)) (by repeat constructor) ?_)))
  (k_with "~compareOp In str ref" => (k_here; k_dflt (refine' in_tuple_strs (News.isTup (by k_asm) (by k_mem)) (by repeat constructor) ?_)))
  (k_with "~my_strs" => first | exact StrsIn.of _ | exact StrsIn.nil | exact StrsIn.one _ _)
  (k_with "~compareOp Eq ref ref" => (k_here; k_dflt (refine' eq_strs (by k_asm) (by k_mem) (by k_mem) (by walk_at "my_strs") (by walk_at "my_strs") (by k_units) ?_)))
  (k_with "~compareOp NotEq ref ref" => (k_here; k_dflt (refine' ne_strs (by k_asm) (by k_mem) (by k_mem) (by walk_at "my_strs") (by walk_at "my_strs") (by k_units) ?_)))
  (k_with "~my_size" => (simp only [List.size_toArray, strValues, List.length_map, Array.length_toList, List.length_append, List.length_dropLast, List.length_cons, List.length_nil, sizeLine_eq]; omega))
  (k_with "~subscriptTail Name Slice ref ref" => (k_here; (with_reducible show wpAny _ _ (subscriptTail _ (PySem.Expr.Slice none _ none _) (Value.ref _) (Value.ref _)) _ _ _); k_dflt (refine' kms_slice_lit (by k_asm) (by k_asm) (by exact News.isList (by k_asm) (by k_mem)) (by kmk_part) (by kmk_part) (by exact pick_dropLast _) ?_ (by with_unfolding_all rfl) (by kmk_pure) (by walk_at "my_size")); intro D'z9 h'z9 F'z9 N'z9 l1z9; (try k_lt l1z9); (try k_sweep)))
  (k_with "~subscriptTail Name UnaryOp ref int" => (k_here; (with_reducible show wpAny _ _ (subscriptTail _ _ (Value.ref _) (Value.int _ _)) _ _ _); k_dflt (refine' item_last (by exact News.isList (by k_asm) (by k_mem)) (by assumption) ?_)))
  (k_with "~binaryOp Add ref ref" => (k_here; k_dflt (refine' kmk_add_lit (by k_asm) (by k_asm) (by exact News.isList (by k_asm) (by k_mem)) (by exact News.isList (by k_asm) (by k_mem)) (by first | exact add_one _ _ _ | exact add_two _ _) ?_ (by walk_at "my_size")); intro D'z9 h'z9 F'z9 N'z9 l1z9; (try k_lt l1z9); (try k_sweep)))
  (k_with "~call ref" => (k_here; (with_reducible show wpAny _ _ (call (Value.ref 52) _) _ _ _); ktf_call (c_small _ _ _ _)))
  (k_with "~my_signs" => (law_clear; simp only [s_a, s_z, s_A, s_Z, s_0, s_9, lt1, str1_eq, e_us, e_co, e_mi, e_do, smallB_iff, startB_iff, charB_iff, ← decide_not, decide_eq_decide, decide_eq_true_eq, decide_eq_false_iff_not, decide_eq_true_eq, eq_comm (a := true), Bool.not_eq_true, Bool.not_eq_false] at *; omega))
  (k_with "~call ref" => (k_here; (with_reducible show wpAny _ _ (call (Value.ref 59) _) _ _ _); ktf_call (c_start _ _ _ _ (by assumption))))
  (k_with "~call ref" => (k_here; (with_reducible show wpAny _ _ (call (Value.ref 66) _) _ _ _); ktf_call (c_char _ _ _ _ (by assumption))))
  (k_with "~call ref" => (k_here; (with_reducible show wpAny _ _ (call (Value.ref 73) _) _ _ _); ktf_call (c_nmtoken _ _ _ _ (by assumption))))
  (k_with "~call ref" => (k_here; (with_reducible show wpAny _ _ (call (Value.ref 80) _) _ _ _); ktf_call (c_name _ _ _ _ (by assumption))))
  (k_with "~call ref" => (k_here; (with_reducible show wpAny _ _ (call (Value.ref 121) _) _ _ _); ktf_call (c_blank _ _ _ _ (by assumption))))
  (k_with "~call ref" => (k_here; (with_reducible show wpAny _ _ (call (Value.ref 128) _) _ _ _); ktf_call (c_norm _ _ _ _ _ _ (by assumption))))
  (k_with "~call ref" => (k_here; (with_reducible show wpAny _ _ (call (Value.ref 135) _) _ _ _); ktf_call (c_words _ _ _ _ _ _ (by assumption))))
  (k_with "~call ref" => (k_here; (with_reducible show wpAny _ _ (call (Value.ref 142) _) _ _ _); ktf_call (c_isword _ _ _ _ _ _ (by assumption))))
  (k_with "~call ref" => (k_here; (with_reducible show wpAny _ _ (call (Value.ref 149) _) _ _ _); ktf_call (c_fits _ _ _ _ _ _ _ _ _ _ _ _ _ _ _ _ _ _ _ _ (by assumption) (by assumption) (by k_mem) (by k_mem) (by k_mem) (by assumption))))
  (k_with "~call ref" => (k_here; (with_reducible show wpAny _ _ (call (Value.ref 566) _) _ _ _); ktf_call (c_lawword _ _ _ _ _ (by assumption) (by assumption))))
  (k_with "~call ref" => (k_here; (with_reducible show wpAny _ _ (call (Value.ref 561) _) _ _ _); ktf_call (c_parted _ _ _ _ (by assumption) (by assumption))))
  (k_with "~call builtin:len" => (k_here; (with_reducible show wpAny _ _ (call (Value.builtin _) [Value.ref _]) _ _ _); k_dflt (refine' len_at (by exact News.isList (by k_asm) (by k_mem)) (by first | omega | ((simp only [List.length_cons, List.length_nil, List.length_append, List.length_map, strValues]); omega)) ?_)))
  (k_with "~my_pick" => first | exact Pick.head | (refine' Pick.tail (by walk_at "my_pick")))
  (k_with "~call ref" => (k_here; (with_reducible show wpAny _ _ (call (Value.ref 542) _) _ _ _); ktr_call (c_take _ _ _ _ _ _ (by assumption) (by first | assumption | decide) (by first | assumption | decide) (by walk_at "my_off")) ()))
  (k_with "~call ref" => (k_here; (with_reducible show wpAny _ _ (call (Value.ref 549) _) _ _ _); ktr_call (c_one _ _ _ _ _ _ _ (by assumption) (by k_mem) (by first | assumption | exact Nat.le_of_ble_eq_true rfl) (by first | assumption | exact Nat.le_of_ble_eq_true rfl) (by walk_at "my_off")) ()))
  (k_with "~call ref" => (k_here; (with_reducible show wpAny _ _ (call (Value.ref 554) _) _ _ _); ktr_call (c_value _ _ _ _ (by assumption) (by walk_at "my_off")) ()))
  (k_with "~call ref" => (k_here; (with_reducible show wpAny _ _ (call (Value.ref 571) _) _ _ _); ktf_call (c_kind _ _ _ _ _ _ (by first | assumption | decide +kernel) (by k_asm))))
  (k_with "~my_tree" => first | assumption | (refine TreeIn.mono ?_ (by assumption); walk_at "my_sub"))
  (k_with "~call ref" => (k_here; (with_reducible show wpAny _ _ (call (Value.ref 367) _) _ _ _); ktf_call (c_row _ _ _ _ _ _ (by walk_at "my_tree") (by assumption) (by assumption))))
  (k_with "~call ref" => (k_here; (with_reducible show wpAny _ _ (call (Value.ref 444) _) _ _ _); ktf_call (c_tkind _ _ _ _ _ _ (by walk_at "my_tree") (by assumption) (by assumption))))
  (k_with "~call ref" => (k_here; (with_reducible show wpAny _ _ (call (Value.ref 451) _) _ _ _); ktf_call (c_tname _ _ _ _ _ _ (by walk_at "my_tree") (by assumption) (by assumption))))
  (k_with "~call ref" => (k_here; (with_reducible show wpAny _ _ (call (Value.ref 472) _) _ _ _); ktf_call (c_tvalue _ _ _ _ _ _ (by walk_at "my_tree") (by assumption) (by assumption))))
  (k_with "~call ref" => (k_here; (with_reducible show wpAny _ _ (call (Value.ref 486) _) _ _ _); ktf_call (c_children _ _ _ _ _ _ (by walk_at "my_tree") (by assumption) (by assumption))))
  (k_with "~call ref" => (k_here; (with_reducible show wpAny _ _ (call (Value.ref 493) _) _ _ _); ktf_call (c_attributes _ _ _ _ _ _ (by walk_at "my_tree") (by assumption) (by assumption))))
  (k_with "~call ref" => (k_here; (with_reducible show wpAny _ _ (call (Value.ref 451) _) _ _ _); ktf_call (c_tnameX _ _ _ _ _ _ _ (by walk_at "my_tree") (by assumption) (by assumption) (by first | assumption | exact rfl))))
  (k_with "k_ne" => (refine neN ?_; (try dsimp only); first | assumption | exact Ne.symm (by assumption) | (refine Nat.ne_of_lt ?_; walk_at "my_lt") | (refine Nat.ne_of_gt ?_; walk_at "my_lt") | omega | exact ne_of_mem (by assumption) (by k_mem) | exact Ne.symm (ne_of_mem (by assumption) (by k_mem))))
  (k_with "~exec While Compare cons nil" => (k_here; (rename Fr _ _ _ _ => lF'z9); (with_unfolding_all refine' while_any lF'z9 ?_); walk_say "MY WHILE"))
  (k_with "~my_ints" => first | exact IntsIn.of _ | exact IntsIn.nil | exact IntsIn.snoc _ _ _)
  (k_with "~compareOp Eq ref ref" => (k_here; k_dflt (refine' eq_ints (by k_asm) (by k_mem) (by k_mem) (by walk_at "my_ints") (by walk_at "my_ints") (by k_units) ?_)))
  (k_with "~compareOp NotEq ref ref" => (k_here; k_dflt (refine' ne_ints (by k_asm) (by k_mem) (by k_mem) (by walk_at "my_ints") (by walk_at "my_ints") (by k_units) ?_)))
  (k_with "~my_size" => (simp only [List.size_toArray, strValues, intVals, refVals, List.length_map, Array.length_toList, List.length_append, List.length_reverse, List.length_dropLast, List.length_cons, List.length_nil, sizeLine_eq]; omega))
  (k_with "~call builtin:list.append" => (k_here; (with_reducible show wpAny _ _ (call (Value.builtin _) [Value.ref _, _]) _ _ _); k_dflt (refine' append_my (by k_asm) (by k_asm) (by k_upd) (by walk_at "my_size") ?_); intro h'z9 F'z9 N'z9; (try k_sweep)))
  (k_with "~call builtin:list.pop" => (k_here; (with_reducible show wpAny _ _ (call (Value.builtin _) [Value.ref _]) _ _ _); k_dflt (refine' pop_my (by k_asm) (by k_asm) (by k_upd) (by walk_at "my_size") ?_); intro h'z9 F'z9 N'z9; (try k_sweep)))
  (k_with "~call builtin:list.extend" => (k_here; (with_reducible show wpAny _ _ (call (Value.builtin _) [Value.ref _, Value.ref _]) _ _ _); k_dflt (refine' extend_my (by k_asm) (by k_asm) (by k_mem) (by (intro k8z9; k_upd)) (by walk_at "my_size") ?_); intro k9z9 h'z9 F'z9 N'z9; (try dsimp only at N'z9); (try k_sweep)))
  (k_with "~subscriptTail Name Slice ref ref" => (k_here; (with_reducible show wpAny _ _ (subscriptTail _ (PySem.Expr.Slice none none (some _) _) (Value.ref _) (Value.ref _)) _ _ _); k_dflt (refine' rev_my (by k_asm) (by k_asm) (by exact News.isList (by k_asm) (by k_mem)) (by exact IsPart.int _ _) (by with_unfolding_all rfl) (by kmk_pure) (by walk_at "my_size") ?_); intro D'z9 h'z9 F'z9 N'z9 l1z9; (try k_lt l1z9); (try k_sweep)))
  (k_with "~my_dtd" => first | assumption | (refine DtdIn.mono ?_ (by assumption); walk_at "my_sub"))
  (k_with "~call ref" => (k_here; (with_reducible show wpAny _ _ (call (Value.ref 289) _) _ _ _); ktf_call (c_idname _ _ _ _ (by walk_at "my_dtd"))))
  (k_with "~call ref" => (k_here; (with_reducible show wpAny _ _ (call (Value.ref 277) _) _ _ _); ktf_call (c_rule _ _ _ _ _ _ _ (by walk_at "my_dtd") (by assumption))))
  (k_with "~call ref" => (k_here; (with_reducible show wpAny _ _ (call (Value.ref 156) _) _ _ _); ktf_call (c_walk _ _ _ _ _ _ (by walk_at "my_tree") (by assumption) (by assumption) (by assumption) (by assumption))))
  (k_with "k_room" => ktr_room)
  (k_with "~call ref" => (k_here; (with_reducible show wpAny _ _ (call (Value.ref 135) _) _ _ _); ktf_call (c_wordsI _ _ _ _ _ (by assumption))))
  trivial
set_option maxHeartbeats 8000000 in
theorem c_refs (w : World) (T : TreeS) (D : DtdS) (nd : Nd) (k : Nat) (tk : Tok) (ats : List (Nat × Str × Str)) (news : Led) (hT : TreeIn news T) (hD : DtdIn w news D) (hz : TOk T) (hn : T.nodes[k]? = some nd) (hnm : nd.name = Str.ofString "e") (hat : AttrsOk T nd ats) (hno : NamesOk ats) :
    Con w 7 177 [.ref T.t, .int ((k : Nat) : Int) tk, .ref D.o] news (fun news' r => ∃ a n vs tl, (DatAll tl vs (pd (pairsP ats)) ∧ Fresh tl news ∧ (∀ p ∈ tl, p.1 ≠ a) ∧ (∀ p ∈ news, p.1 ≠ a)) ∧ r = .ref a ∧ news' = (a, listOf vs.toArray n) :: (tl ++ news)) := by
  have g1 := hT.i
  have g2 := hT.d
  have d1 := hD.i
  have d2 := hD.d
  have hvals : ∀ q ∈ ats, q.2.2.cps.size ≤ 1000 := fun q hq => (hat.2 q hq).elim fun an h => by
    have := (hz.2 an (List.mem_of_getElem? h.1)).2.2.2
    rw [← h.2.2]; omega
  have hatl : ats.length ≤ 100 := by have := congrArg List.length hat.1; simp only [List.length_map] at this; have := (hz.2 nd (List.mem_of_getElem? hn)).2.1; omega
  unfold Con; k_fill; intro loose mean mg mb dp un gd cn cs a ccd cl outer A₀ base h₀ L m s Q E B F X N Tp hk hdp hun hret; walk_at "my_enter"
  k_steps
  (try walk_at "my_fold")
  rename News _ _ _ _ => N1
  obtain ⟨xa, ka, e9, e8⟩ := list_name N1
  subst e9 e8
  obtain ⟨fa, e9⟩ := head_name fun p hp => N1 p (List.mem_cons_of_mem _ hp)
  subst e9
  have hfa : ∀ p ∈ news, p.1 ≠ fa := by walk_at "my_fresh"
  have hxf : @Ne Nat xa fa := by k_ne
  refine iter_list (fun m₀ n₀ i K => ∀ m₁ kf vs tl, m₁ (Str.ofString "tree") = some (.ref T.t) → m₁ (Str.ofString "dtd") = some (.ref D.o) → (∃ t, m₁ (Str.ofString "element") = some (.int ((k : Nat) : Int) t)) → m₁ (Str.ofString "found") = some (.ref fa) → RInv fa tl news vs (pairsP (ats.take i)) → K m₁ ((fa, listOf vs.toArray kf) :: (xa, listOf (intVals nd.attrs).toArray ka) :: (tl ++ news)))
    rfl (by k_asm) (cb_drop (news := (fa, listOf #[] 0) :: (xa, listOf (intVals nd.attrs).toArray ka) :: news) N1 (by walk_at "my_sub")) (.inr ⟨_, by k_mem, rfl, _, rfl⟩) (fun K k => k _ _ [] [] (by rfl) (by rfl) ⟨_, by rfl⟩ (by rfl) RInv.nil) ?_ ?_
  · intro I i v hv
    intro m₁ kf vs tl hm1 hm2 hm3' hm4 hR oI h tk S off F₁ N₁
    (try walk_at "my_fold")
    obtain ⟨p, hp, rfl⟩ := intAtL (by simpa using hv)
    obtain ⟨q, an, hq, hq1, han, han1, han2⟩ := hat.at hp
    have hvz : an.val.cps.size ≤ 1000 := by have := (hz.2 an (List.mem_of_getElem? han)).2.2.2; omega
    refine name_rule hD (hno q (List.mem_of_getElem? hq)) fun ra kd z hrv hru hrk => ?_
    obtain ⟨t3, hm3⟩ := hm3'
    obtain ⟨tn, htn⟩ : ∃ tn, tn = tl ++ news := ⟨_, rfl⟩
    rw [← htn] at off N₁
    have hsub : ∀ p ∈ news, p ∈ tn := fun p hp => htn ▸ List.mem_append_right _ hp
    have hT2 := hT.mono hsub
    have hD2 := hD.mono hsub
    have g1' := hT2.i
    have g2' := hT2.d
    have d1' := hD2.i
    have d2' := hD2.d
    have x1 := hsub _ hru.i
    have x2 := hsub _ hru.d
    have htf : ∀ p ∈ tn, p.1 ≠ fa := by rw [htn]; exact List.forall_mem_append.mpr ⟨hR.2.2, hfa⟩
    have off' : ∀ p ∈ tn, p.1 ≠ I := fun p hp => off p (List.mem_cons_of_mem _ (List.mem_cons_of_mem _ hp))
    k_steps
    · rename List.any _ _ = true => hq9
      have hq8 : (q.2.1 == Str.ofString "i") = false := by have := hrk.symm.trans hq9; simpa using this
      rename News _ _ _ _ => N2
      rename List.map _ _ = partB _ => hws
      rename List (Str × Tok) => ws
      obtain ⟨wa, kw, e9, e8⟩ := list_name N2
      subst e9 e8
      have hwf : @Ne Nat wa fa := by k_ne
      have hwl := part_len hvz
      rw [← hws, List.length_map] at hwl
      refine iter_list (fun m₀ n₀ j K => ∀ m₁ kf' vs' tl', m₁ (Str.ofString "tree") = some (.ref T.t) → m₁ (Str.ofString "dtd") = some (.ref D.o) → (∃ t, m₁ (Str.ofString "element") = some (.int ((k : Nat) : Int) t)) → m₁ (Str.ofString "found") = some (.ref fa) → (∃ t, m₁ (Str.ofString "attribute") = some (.int ((p.1 : Nat) : Int) t)) → (∀ p ∈ tl', p.1 ≠ I) →
          RInv fa tl' news vs' (pairsP (ats.take i) ++ ((partB an.val).take j).map fun x => (p.1, x)) → K m₁ ((fa, listOf vs'.toArray kf') :: (wa, listOf (strValues ws).toArray kw) :: (xa, listOf (intVals nd.attrs).toArray ka) :: (I, oI) :: (tl' ++ news)))
        rfl (by k_asm) (cb_drop (news := (fa, listOf vs.toArray kf) :: (wa, listOf (strValues ws).toArray kw) :: (xa, listOf (intVals nd.attrs).toArray ka) :: (I, oI) :: (tl ++ news)) N2 (by rw [← htn]; walk_at "my_sub")) (.inr ⟨_, by k_mem, rfl, _, rfl⟩)
        (fun K k => k _ _ vs tl (by exact hm1) (by exact hm2) ⟨_, by exact hm3⟩ (by exact hm4) ⟨_, by rfl⟩ (fun p hp => off' p (htn ▸ List.mem_append_left _ hp)) (by simpa using hR)) ?_ ?_
      · intro I2 j v hv2
        intro m₂ kf' vs' tl' hn1 hn2 hn3 hn4 hn5' hti hR2 oI2 h2 tk2 S2 off2 F₂ N₂
        (try walk_at "my_fold")
        obtain ⟨x, hx, rfl⟩ := strAt hv2
        have hxw : (partB an.val)[j]? = some x.1 := map_at hws hx
        have hjl : j < ws.length := (List.getElem?_eq_some_iff.mp hx).1
        obtain ⟨t5, hn5⟩ := hn5'
        have hlv := hR2.len
        rw [List.length_append, List.length_map, List.length_take] at hlv
        have hb : (pairsP (ats.take i)).length ≤ 1001 * (ats.take i).length := pairsP_len fun q hq => hvals q (List.mem_of_mem_take hq)
        rw [List.length_take] at hb
        have hlv2 : vs'.length ≤ 200000 := by omega
        clear hlv hb
        obtain ⟨tn2, htn2⟩ : ∃ tn, tn = tl' ++ news := ⟨_, rfl⟩
        rw [← htn2] at off2 N₂
        have off3 : ∀ p ∈ tn2, p.1 ≠ I2 := fun p hp => off2 p (List.mem_cons_of_mem _ (List.mem_cons_of_mem _ (List.mem_cons_of_mem _ (List.mem_cons_of_mem _ hp))))
        have hI2f : @Ne Nat I2 fa := fun e => off2 _ List.mem_cons_self e.symm
        have hIf : @Ne Nat I fa := fun e => off _ List.mem_cons_self e.symm
        have hwI2 : @Ne Nat wa I2 := off2 _ (List.mem_cons_of_mem _ List.mem_cons_self)
        have hxI2 : @Ne Nat xa I2 := off2 _ (List.mem_cons_of_mem _ (List.mem_cons_of_mem _ List.mem_cons_self))
        have hI2I : @Ne Nat I I2 := off2 _ (List.mem_cons_of_mem _ (List.mem_cons_of_mem _ (List.mem_cons_of_mem _ List.mem_cons_self)))
        have htf2 : ∀ p ∈ tn2, p.1 ≠ fa := by rw [htn2]; exact List.forall_mem_append.mpr ⟨hR2.2.2, hfa⟩
        k_steps
        (try walk_at "my_fold")
        subst htn2
        refine TE.intro (by k_asm) (by k_asm) (by walk_at "my_sub") ?_ (.inr ⟨_, by k_mem, rfl, _, rfl⟩) (fun K k => k _ _ (vs' ++ [.ref _]) ((_, _) :: tl') (by exact hn1) (by exact hn2) (by exact hn3) (by exact hn4) ⟨_, by exact hn5⟩ (List.forall_mem_cons.mpr ⟨by k_ne, hti⟩) (by
          rw [take_one hxw, List.map_append, ← List.append_assoc]
          exact hR2.snoc (fun p hp => (show ∀ p ∈ tl' ++ news, p.1 ≠ _ from by walk_at "my_fresh") p (List.mem_append_right _ hp)) (by k_ne)))
        walk_at "my_off"
      · intro m₂ kf' vs' tl' hn1 hn2 hn3' hn4 hn5 hti hR2 h2 tk2 F₂ N₂
        k_steps
        (try walk_at "my_fold")
        have hlw : (strValues ws).toArray.size = (partB an.val).length := by rw [List.size_toArray, strValues_len, ← hws, List.length_map]
        rw [hlw, List.take_length] at hR2
        exact TE.intro (by k_asm) (by k_asm) (by walk_at "my_sub") (List.forall_mem_cons.mpr ⟨by exact off (fa, listOf vs.toArray kf) List.mem_cons_self, List.forall_mem_cons.mpr ⟨off _ (List.mem_cons_of_mem _ List.mem_cons_self), List.forall_mem_append.mpr ⟨hti, fun p hp => off' p (hsub p hp)⟩⟩⟩) (.inr ⟨_, by k_mem, rfl, _, rfl⟩)
          (fun K k => k _ _ vs' tl' (by exact hn1) (by exact hn2) (by exact hn3') (by exact hn4) (by rw [take_one hq, pairsP_snoc, ← han2, hq1, hq8, if_neg (by simp)]; exact hR2))
    · rename List.any _ _ = false => hq9
      have hq8 : (q.2.1 == Str.ofString "i") = true := by have := hrk.symm.trans hq9; simpa using this
      rw [htn] at off
      subst htn
      exact TE.intro (by k_asm) (by k_asm) (by walk_at "my_sub") off S (fun K k => k _ kf vs tl (by exact hm1) (by exact hm2) ⟨_, by exact hm3⟩ (by exact hm4) (by rw [take_one hq, pairsP_snoc, hq8, if_pos rfl, List.append_nil]; exact hR))
  · intro m₁ kf vs tl hm1 hm2 hm3 hm4 hR h tk F₁ N₁
    k_steps
    (try walk_at "my_fold")
    have hla : (intVals nd.attrs).toArray.size = ats.length := by rw [List.size_toArray, intVals_len]; have := congrArg List.length hat.1; simpa using this
    rw [hla, List.take_length] at hR
    exact hret _ _ _ _ (by k_asm) (cb_drop (by k_asm) (by walk_at "my_sub")) ⟨fa, kf, vs, tl, ⟨hR.1, hR.2.1, hR.2.2, hfa⟩, rfl, rfl⟩
end

-- id_table
structure El where
  id : Nat
  ats : List (Nat × Str × Str)
def ElOk (T : TreeS) (e : El) : Prop := ∃ nd, T.nodes[e.id]? = some nd ∧ nd.name = Str.ofString "e" ∧ AttrsOk T nd e.ats ∧ NamesOk e.ats
def ElsOk (T : TreeS) (es : List El) : Prop := (∀ e ∈ es, ElOk T e) ∧ (∃ nd0, T.nodes[0]? = some nd0 ∧ WalksT T (nd0.kids.map (·.1)).reverse (es.map (·.id))) ∧ es.length ≤ 10
def tabStep (l : List (Str × Nat)) (e : El) : List (Str × Nat) := match toldP e.ats with
  | none => l
  | some x => if (l.lookup x).isSome = true then l else l ++ [(x, e.id)]
def tabP (es : List El) : List (Str × Nat) := es.foldl tabStep []
def tabV (l : List (Str × Nat × Tok)) : List (Str × Value) := l.map fun p => (p.1, .int ((p.2.1 : Nat) : Int) p.2.2)
theorem tabV_at (l : List (Str × Nat × Tok)) (x : Str) : (valueAt (tabV l) x).isSome = ((l.map fun p => (p.1, p.2.1)).lookup x).isSome := by
  induction l with
  | nil => rfl
  | cons p r ih =>
    unfold valueAt tabV at ih ⊢
    simp only [List.map_cons, List.find?_cons, List.lookup_cons]
    by_cases h : p.1 = x
    · subst h; simp
    · have h2 : (x == p.1) = false := by simp; exact fun e => h e.symm
      simp only [h, decide_false, h2]; exact ih
theorem tabV_snoc (l : List (Str × Nat × Tok)) (x : Str) (k : Nat) (t : Tok) : tabV (l ++ [(x, k, t)]) = tabV l ++ [(x, .int ((k : Nat) : Int) t)] := by simp [tabV]
theorem tabP_snoc (l : List El) (e : El) : tabP (l ++ [e]) = tabStep (tabP l) e := by simp [tabP]
theorem tabP_len (es : List El) : (tabP es).length ≤ es.length := by
  have : ∀ (es : List El) (l : List (Str × Nat)), (es.foldl tabStep l).length ≤ l.length + es.length := by
    intro es
    induction es with
    | nil => intro l; simp
    | cons e r ih =>
      intro l
      have h1 := ih (tabStep l e)
      have h2 : (tabStep l e).length ≤ l.length + 1 := by
        unfold tabStep; split
        · omega
        · split <;> simp
      simp only [List.foldl_cons, List.length_cons]; omega
  simpa [tabP] using this es []
section
theorem w26 : True := by
  k_with_none
  (k_with "~my_fold" => ((fail_if_success (fail_if_success k_fold)); (refine (let qk := _; (?_ : wpAny _ _ _ qk _ _)))))
  (k_with "~my_state" => ((fail_if_success (fail_if_success (conv => arg 6; pattern PySem.Shared.mk _ _ _ _ _))); (refine (let sk := _; (?_ : wpAny _ _ _ _ _ sk)))))
  (k_with "~my_around" => ((try refine (let vk := _; (?_ : wpAny _ _ (execs _ vk) _ _ _))); (refine (let ak := _; (?_ : wpAny _ ak _ _ _ _)))))
  (k_with "~my_enter" => (refine wpAny_call ?_; k_dflt ktr_enter; (try walk_at "my_around")))
  (k_with "~use2" => (
  (first | (refine post00 ?_; intro h9z9 tk9z9 F9z9 N9z9) | (refine post10 ?_; intro x1z9 h9z9 tk9z9 F9z9 N9z9) | (refine post20 ?_; intro x1z9 x2z9 h9z9 tk9z9 F9z9 N9z9) | (refine post21 ?_; intro x1z9 x2z9 q1z9 h9z9 tk9z9 F9z9 N9z9) | (refine post22 ?_; intro x1z9 x2z9 q1z9 q2z9 h9z9 tk9z9 F9z9 N9z9) | (refine post31 ?_; intro x1z9 x2z9 x3z9 q1z9 h9z9 tk9z9 F9z9 N9z9) | (refine post32 ?_; intro x1z9 x2z9 x3z9 q1z9 q2z9 h9z9 tk9z9 F9z9 N9z9) | (refine post33 ?_; intro x1z9 x2z9 x3z9 q1z9 q2z9 q3z9 h9z9 tk9z9 F9z9 N9z9) | (refine post41 ?_; intro x1z9 x2z9 x3z9 x4z9 q1z9 h9z9 tk9z9 F9z9 N9z9))
  (try walk_at "my_fold")
  (try dsimp only)
  (try k_sweep)
  (try walk_at "my_fold")))
  (k_with "~my_tail" => first | assumption | (refine' List.mem_cons_of_mem _ ?_; walk_at "my_tail"))
  (k_with "~my_sub" => first | exact fun _ hpz9 => hpz9 | exact List.forall_mem_nil _ | (refine' List.forall_mem_cons.mpr ⟨?_, ?_⟩; k_mem; walk_at "my_sub") | (intro pz9 hpz9; walk_at "my_tail"))
  (k_with "k_units" => ktr_units)
  (k_with "k_mem" => first | exact List.mem_cons_self | ktr_member | (refine' List.mem_cons_of_mem _ ?_; k_mem))
  (k_with "~my_and" => first | assumption | (refine And.right ?_; walk_at "my_and"))
  (k_with "~my_fresh" => first | assumption | exact ne_of_lts (by assumption) | exact ne_of_allLt (by first | assumption | exact And.right (by assumption) | exact And.right (And.right (by assumption)) | exact And.right (And.right (And.right (by assumption))) | exact And.right (And.right (And.right (And.right (by assumption)))) | exact And.right (And.right (And.right (And.right (And.right (by assumption))))) | exact And.right (And.right (And.right (And.right (And.right (And.right (by assumption)))))) | exact And.right (And.right (And.right (And.right (And.right (And.right (And.right (by assumption))))))) | exact And.right (And.right (And.right (And.right (And.right (And.right (And.right (And.right (by assumption))))))))))
  (k_with "~my_off" => first | assumption | exact List.forall_mem_nil _ | (refine' List.forall_mem_cons.mpr ⟨?_, ?_⟩; (first | k_ne | exact (by assumption : ∀ pz9 ∈ (_ : Led), pz9.1 ≠ _) _ (by k_mem)); walk_at "my_off") | (intro pz9 hpz9; first | exact (by assumption : ∀ pz9 ∈ (_ : Led), pz9.1 ≠ _) pz9 hpz9 | exact (by assumption : ∀ pz9 ∈ (_ : Led), pz9.1 ≠ _) pz9 (by walk_at "my_tail") | (have h9z9 := ltN ((by assumption : ∀ pz9 ∈ (_ : Led), pz9.1 < _) pz9 hpz9); refine neN ?_; omega)))
  (k_with "k_all" => walk_at "my_off")
  (k_with "~my_lt" => first | assumption | exact And.left (by assumption) | exact And.left (And.right (by assumption)) | exact And.left (And.right (And.right (by assumption))) | exact And.left (And.right (And.right (And.right (by assumption)))) | exact And.left (And.right (And.right (And.right (And.right (by assumption))))) | exact And.left (And.right (And.right (And.right (And.right (And.right (by assumption)))))) | exact And.left (And.right (And.right (And.right (And.right (And.right (And.right (by assumption))))))) | exact And.left (And.right (And.right (And.right (And.right (And.right (And.right (And.right (by assumption)))))))) | exact And.left (And.right (And.right (And.right (And.right (And.right (And.right (And.right (And.right (by assumption))))))))) | exact And.left (And.right (And.right (And.right (And.right (And.right (And.right (And.right (And.right (And.right (by assumption)))))))))) | exact And.left (And.right (And.right (And.right (And.right (And.right (And.right (And.right (And.right (And.right (And.right (by assumption))))))))))) | exact And.left (And.right (And.right (And.right (And.right (And.right (And.right (And.right (And.right (And.right (And.right (And.right (by assumption)))))))))))) | exact And.left (And.right (And.right (And.right (And.right (And.right (And.right (And.right (And.right (And.right (And.right (And.right (And.right (by assumption))))))))))))) | exact And.left (And.right (And.right (And.right (And.right (And.right (And.right (And.right (And.right (And.right (And.right (And.right (And.right (And.right (by assumption)))))))))))))) | exact And.left (And.right (And.right (And.right (And.right (And.right (And.right (And.right (And.right (And.right (And.right (And.right (And.right (And.right (And.right (by assumption))))))))))))))) | exact And.left (And.right (And.right (And.right (And.right (And.right (And.right (And.right (And.right (And.right (And.right (And.right (And.right (And.right (And.right (And.right (by assumption)))))))))))))))))
  (k_with "k_ne" => (refine neN ?_; (try dsimp only); first | assumption | exact Ne.symm (by assumption) | (refine Nat.ne_of_lt ?_; walk_at "my_lt") | (refine Nat.ne_of_gt ?_; walk_at "my_lt") | omega))
  (k_with "~my_for" => (k_here; (rename Fr _ _ _ _ => lF'z9); (with_unfolding_all refine' for_any lF'z9 ?_); (try walk_at "my_fold"); walk_say "MY FOR"))
  (k_with "~my_look" => first | with_reducible assumption | rfl | assumption)
  (k_with "~exec For Name Name cons nil" => walk_at "my_for")
  (k_with "~exec For Name Call cons nil" => walk_at "my_for")
  (k_with "~exec For Name List cons nil" => walk_at "my_for")
  (k_with "~exec For Tuple Name cons nil" => walk_at "my_for")
  (k_with "~exec For Tuple Call cons nil" => walk_at "my_for")
  (k_with "~exec For Name BinOp cons nil" => walk_at "my_for")
  (k_with "~TurnA" => (dsimp only [TurnA]))
  (k_with "~eval ListComp" => (k_here; k_dflt (refine' comp_any (by k_asm) (by with_unfolding_all rfl) (by decide) (by rfl) (by decide) (by decide) ?_); (try k_fold); walk_say "MY COMP"))
  (k_with "~exec Assign cons ListComp" => (k_here; k_dflt (refine' comp_assign (by k_asm) (by rfl) (by with_unfolding_all rfl) (by with_unfolding_all rfl) (by decide) (by rfl) (by decide) (by rfl) (by rfl) (by decide) ?_); (try k_fold); walk_say "MY COMP"))
  (k_with "~TestElt" => (dsimp only [TestElt]; (try k_fold)))
  (k_with "~compareOp In str ref" => (k_here; k_dflt (refine' in_tuple_strs (tupK (by k_in) (by k_is)) (by repeat constructor) ?_)))
  (k_with "~compareOp In str ref" => (k_here; k_dflt (refine' in_tuple_strs (News.isTup (by k_asm) (by k_mem)) (by repeat constructor) ?_)))
  (k_with "~my_strs" => first | exact StrsIn.of _ | exact StrsIn.nil | exact StrsIn.one _ _)
  (k_with "~compareOp Eq ref ref" => (k_here; k_dflt (refine' eq_strs (by k_asm) (by k_mem) (by k_mem) (by walk_at "my_strs") (by walk_at "my_strs") (by k_units) ?_)))
  (k_with "~compareOp NotEq ref ref" => (k_here; k_dflt (refine' ne_strs (by k_asm) (by k_mem) (by k_mem) (by walk_at "my_strs") (by walk_at "my_strs") (by k_units) ?_)))
  (k_with "~my_size" => (simp only [List.size_toArray, strValues, List.length_map, Array.length_toList, List.length_append, List.length_dropLast, List.length_cons, List.length_nil, sizeLine_eq]; omega))
  (k_with "~subscriptTail Name Slice ref ref" => (k_here; (with_reducible show wpAny _ _ (subscriptTail _ (PySem.Expr.Slice none _ none _) (Value.ref _) (Value.ref _)) _ _ _); k_dflt (refine' kms_slice_lit (by k_asm) (by k_asm) (by exact News.isList (by k_asm) (by k_mem)) (by kmk_part) (by kmk_part) (by exact pick_dropLast _) ?_ (by with_unfolding_all rfl) (by kmk_pure) (by walk_at "my_size")); intro D'z9 h'z9 F'z9 N'z9 l1z9; (try k_lt l1z9); (try k_sweep)))
  (k_with "~subscriptTail Name UnaryOp ref int" => (k_here; (with_reducible show wpAny _ _ (subscriptTail _ _ (Value.ref _) (Value.int _ _)) _ _ _); k_dflt (refine' item_last (by exact News.isList (by k_asm) (by k_mem)) (by assumption) ?_)))
  (k_with "~binaryOp Add ref ref" => (k_here; k_dflt (refine' kmk_add_lit (by k_asm) (by k_asm) (by exact News.isList (by k_asm) (by k_mem)) (by exact News.isList (by k_asm) (by k_mem)) (by first | exact add_one _ _ _ | exact add_two _ _) ?_ (by walk_at "my_size")); intro D'z9 h'z9 F'z9 N'z9 l1z9; (try k_lt l1z9); (try k_sweep)))
  (k_with "~call ref" => (k_here; (with_reducible show wpAny _ _ (call (Value.ref 52) _) _ _ _); ktf_call (c_small _ _ _ _)))
  (k_with "~my_signs" => (law_clear; simp only [s_a, s_z, s_A, s_Z, s_0, s_9, lt1, str1_eq, e_us, e_co, e_mi, e_do, smallB_iff, startB_iff, charB_iff, ← decide_not, decide_eq_decide, decide_eq_true_eq, decide_eq_false_iff_not, decide_eq_true_eq, eq_comm (a := true), Bool.not_eq_true, Bool.not_eq_false] at *; omega))
  (k_with "~call ref" => (k_here; (with_reducible show wpAny _ _ (call (Value.ref 59) _) _ _ _); ktf_call (c_start _ _ _ _ (by assumption))))
  (k_with "~call ref" => (k_here; (with_reducible show wpAny _ _ (call (Value.ref 66) _) _ _ _); ktf_call (c_char _ _ _ _ (by assumption))))
  (k_with "~call ref" => (k_here; (with_reducible show wpAny _ _ (call (Value.ref 73) _) _ _ _); ktf_call (c_nmtoken _ _ _ _ (by assumption))))
  (k_with "~call ref" => (k_here; (with_reducible show wpAny _ _ (call (Value.ref 80) _) _ _ _); ktf_call (c_name _ _ _ _ (by assumption))))
  (k_with "~call ref" => (k_here; (with_reducible show wpAny _ _ (call (Value.ref 121) _) _ _ _); ktf_call (c_blank _ _ _ _ (by assumption))))
  (k_with "~call ref" => (k_here; (with_reducible show wpAny _ _ (call (Value.ref 128) _) _ _ _); ktf_call (c_norm _ _ _ _ _ _ (by assumption))))
  (k_with "~call ref" => (k_here; (with_reducible show wpAny _ _ (call (Value.ref 135) _) _ _ _); ktf_call (c_words _ _ _ _ _ _ (by assumption))))
  (k_with "~call ref" => (k_here; (with_reducible show wpAny _ _ (call (Value.ref 142) _) _ _ _); ktf_call (c_isword _ _ _ _ _ _ (by assumption))))
  (k_with "~call ref" => (k_here; (with_reducible show wpAny _ _ (call (Value.ref 149) _) _ _ _); ktf_call (c_fits _ _ _ _ _ _ _ _ _ _ _ _ _ _ _ _ _ _ _ _ (by assumption) (by assumption) (by k_mem) (by k_mem) (by k_mem) (by assumption))))
  (k_with "~call ref" => (k_here; (with_reducible show wpAny _ _ (call (Value.ref 566) _) _ _ _); ktf_call (c_lawword _ _ _ _ _ (by assumption) (by assumption))))
  (k_with "~call ref" => (k_here; (with_reducible show wpAny _ _ (call (Value.ref 561) _) _ _ _); ktf_call (c_parted _ _ _ _ (by assumption) (by assumption))))
  (k_with "~call builtin:len" => (k_here; (with_reducible show wpAny _ _ (call (Value.builtin _) [Value.ref _]) _ _ _); k_dflt (refine' len_at (by exact News.isList (by k_asm) (by k_mem)) (by first | omega | ((simp only [List.length_cons, List.length_nil, List.length_append, List.length_map, strValues]); omega)) ?_)))
  (k_with "~my_pick" => first | exact Pick.head | (refine' Pick.tail (by walk_at "my_pick")))
  (k_with "~call ref" => (k_here; (with_reducible show wpAny _ _ (call (Value.ref 542) _) _ _ _); ktr_call (c_take _ _ _ _ _ _ (by assumption) (by first | assumption | decide) (by first | assumption | decide) (by walk_at "my_off")) ()))
  (k_with "~call ref" => (k_here; (with_reducible show wpAny _ _ (call (Value.ref 549) _) _ _ _); ktr_call (c_one _ _ _ _ _ _ _ (by assumption) (by k_mem) (by first | assumption | exact Nat.le_of_ble_eq_true rfl) (by first | assumption | exact Nat.le_of_ble_eq_true rfl) (by walk_at "my_off")) ()))
  (k_with "~call ref" => (k_here; (with_reducible show wpAny _ _ (call (Value.ref 554) _) _ _ _); ktr_call (c_value _ _ _ _ (by assumption) (by walk_at "my_off")) ()))
  (k_with "~call ref" => (k_here; (with_reducible show wpAny _ _ (call (Value.ref 571) _) _ _ _); ktf_call (c_kind _ _ _ _ _ _ (by first | assumption | decide +kernel) (by k_asm))))
  (k_with "~my_tree" => first | assumption | (refine TreeIn.mono ?_ (by assumption); walk_at "my_sub"))
  (k_with "~call ref" => (k_here; (with_reducible show wpAny _ _ (call (Value.ref 367) _) _ _ _); ktf_call (c_row _ _ _ _ _ _ (by walk_at "my_tree") (by assumption) (by assumption))))
  (k_with "~call ref" => (k_here; (with_reducible show wpAny _ _ (call (Value.ref 444) _) _ _ _); ktf_call (c_tkind _ _ _ _ _ _ (by walk_at "my_tree") (by assumption) (by assumption))))
  (k_with "~call ref" => (k_here; (with_reducible show wpAny _ _ (call (Value.ref 451) _) _ _ _); ktf_call (c_tname _ _ _ _ _ _ (by walk_at "my_tree") (by assumption) (by assumption))))
  (k_with "~call ref" => (k_here; (with_reducible show wpAny _ _ (call (Value.ref 472) _) _ _ _); ktf_call (c_tvalue _ _ _ _ _ _ (by walk_at "my_tree") (by assumption) (by assumption))))
  (k_with "~call ref" => (k_here; (with_reducible show wpAny _ _ (call (Value.ref 486) _) _ _ _); ktf_call (c_children _ _ _ _ _ _ (by walk_at "my_tree") (by assumption) (by assumption))))
  (k_with "~call ref" => (k_here; (with_reducible show wpAny _ _ (call (Value.ref 493) _) _ _ _); ktf_call (c_attributes _ _ _ _ _ _ (by walk_at "my_tree") (by assumption) (by assumption))))
  (k_with "~call ref" => (k_here; (with_reducible show wpAny _ _ (call (Value.ref 451) _) _ _ _); ktf_call (c_tnameX _ _ _ _ _ _ _ (by walk_at "my_tree") (by assumption) (by assumption) (by first | assumption | exact rfl))))
  (k_with "k_ne" => (refine neN ?_; (try dsimp only); first | assumption | exact Ne.symm (by assumption) | (refine Nat.ne_of_lt ?_; walk_at "my_lt") | (refine Nat.ne_of_gt ?_; walk_at "my_lt") | omega | exact ne_of_mem (by assumption) (by k_mem) | exact Ne.symm (ne_of_mem (by assumption) (by k_mem))))
  (k_with "~exec While Compare cons nil" => (k_here; (rename Fr _ _ _ _ => lF'z9); (with_unfolding_all refine' while_any lF'z9 ?_); walk_say "MY WHILE"))
  (k_with "~my_ints" => first | exact IntsIn.of _ | exact IntsIn.nil | exact IntsIn.snoc _ _ _)
  (k_with "~compareOp Eq ref ref" => (k_here; k_dflt (refine' eq_ints (by k_asm) (by k_mem) (by k_mem) (by walk_at "my_ints") (by walk_at "my_ints") (by k_units) ?_)))
  (k_with "~compareOp NotEq ref ref" => (k_here; k_dflt (refine' ne_ints (by k_asm) (by k_mem) (by k_mem) (by walk_at "my_ints") (by walk_at "my_ints") (by k_units) ?_)))
  (k_with "~my_size" => (simp only [List.size_toArray, strValues, intVals, refVals, List.length_map, Array.length_toList, List.length_append, List.length_reverse, List.length_dropLast, List.length_cons, List.length_nil, sizeLine_eq]; omega))
  (k_with "~call builtin:list.append" => (k_here; (with_reducible show wpAny _ _ (call (Value.builtin _) [Value.ref _, _]) _ _ _); k_dflt (refine' append_my (by k_asm) (by k_asm) (by k_upd) (by walk_at "my_size") ?_); intro h'z9 F'z9 N'z9; (try k_sweep)))
  (k_with "~call builtin:list.pop" => (k_here; (with_reducible show wpAny _ _ (call (Value.builtin _) [Value.ref _]) _ _ _); k_dflt (refine' pop_my (by k_asm) (by k_asm) (by k_upd) (by walk_at "my_size") ?_); intro h'z9 F'z9 N'z9; (try k_sweep)))
  (k_with "~call builtin:list.extend" => (k_here; (with_reducible show wpAny _ _ (call (Value.builtin _) [Value.ref _, Value.ref _]) _ _ _); k_dflt (refine' extend_my (by k_asm) (by k_asm) (by k_mem) (by (intro k8z9; k_upd)) (by walk_at "my_size") ?_); intro k9z9 h'z9 F'z9 N'z9; (try dsimp only at N'z9); (try k_sweep)))
  (k_with "~subscriptTail Name Slice ref ref" => (k_here; (with_reducible show wpAny _ _ (subscriptTail _ (PySem.Expr.Slice none none (some _) _) (Value.ref _) (Value.ref _)) _ _ _); k_dflt (refine' rev_my (by k_asm) (by k_asm) (by exact News.isList (by k_asm) (by k_mem)) (by exact IsPart.int _ _) (by with_unfolding_all rfl) (by kmk_pure) (by walk_at "my_size") ?_); intro D'z9 h'z9 F'z9 N'z9 l1z9; (try k_lt l1z9); (try k_sweep)))
  (k_with "~my_dtd" => first | assumption | (refine DtdIn.mono ?_ (by assumption); walk_at "my_sub"))
  (k_with "~call ref" => (k_here; (with_reducible show wpAny _ _ (call (Value.ref 289) _) _ _ _); ktf_call (c_idname _ _ _ _ (by walk_at "my_dtd"))))
  (k_with "~call ref" => (k_here; (with_reducible show wpAny _ _ (call (Value.ref 277) _) _ _ _); ktf_call (c_rule _ _ _ _ _ _ _ (by walk_at "my_dtd") (by assumption))))
  (k_with "~call ref" => (k_here; (with_reducible show wpAny _ _ (call (Value.ref 156) _) _ _ _); ktf_call (c_walk _ _ _ _ _ _ (by walk_at "my_tree") (by assumption) (by assumption) (by assumption) (by assumption))))
  (k_with "k_room" => ktr_room)
  (k_with "~call ref" => (k_here; (with_reducible show wpAny _ _ (call (Value.ref 163) _) _ _ _); ktf_call (by first | exact (c_idofN _ _ _ _ _ _ _ _ (by walk_at "my_tree") (by walk_at "my_dtd") (by assumption) (by assumption) (by assumption) (by assumption) (by with_reducible assumption)) | exact (c_idofS _ _ _ _ _ _ _ _ _ (by walk_at "my_tree") (by walk_at "my_dtd") (by assumption) (by assumption) (by assumption) (by assumption) (by with_reducible assumption)))))
  (k_with "~compareOp NotIn str ref" => (k_here; k_dflt (refine kdg_notin (knd := PySem.strKind _ _) (by k_asm) (by k_mem) (by k_asm) (by k_asm) (strKind_is _ _ _ _) _ rfl ?_)))
  (k_with "~setItem ref str" => (k_here; k_dflt (refine' kda_set (knd := PySem.strKind _ _) (by k_asm) (by k_asm) (by k_updF) (by k_asm) (strKind_is _ _ _ _) (by assumption) ?_); intro h'z9 o'z9 F'z9 N'z9 hd'z9; (try dsimp only at N'z9)))
  trivial
set_option maxHeartbeats 8000000 in
theorem c_idtable (w : World) (T : TreeS) (D : DtdS) (es : List El) (tk : Tok) (news : Led) (hT : TreeIn news T) (hD : DtdIn w news D) (hz : TOk T) (hes : ElsOk T es) :
    Con w 9 170 [.ref T.t, .int (((0 : Nat) : Nat) : Int) tk, .ref D.o] news (fun news' r => ∃ d o l, ((o : Obj).IsDictOf (PySem.strKind PySem.Challenge.rw_sm0078_01.row.prog w) (tabV l) ∧ l.map (fun p => (p.1, p.2.1)) = tabP es ∧ (d == sysModules) = false ∧ (∀ p ∈ news, p.1 ≠ d)) ∧ r = .ref d ∧ news' = (d, o) :: news) := by
  obtain ⟨he, ⟨nd0, hn0, hwk⟩, hel⟩ := hes
  have hol : (es.map (·.id)).length ≤ 100 := by rw [List.length_map]; omega
  unfold Con; k_fill; intro loose mean mg mb dp un gd cn cs a ccd cl outer A₀ base h₀ L m s Q E B F X N Tp hk hdp hun hret; walk_at "my_enter"
  k_steps
  (try walk_at "my_fold")
  rename List (Nat × Tok) => lx
  rename Obj => od
  rename List.map _ _ = List.map _ _ => hlx
  rename News _ _ _ _ => N1
  have N2 := cb_drop (news := (_, od) :: (_, listOf (intVals lx).toArray _) :: news) N1 (by walk_at "my_sub")
  obtain ⟨da, e9⟩ := head_name N2
  subst e9
  obtain ⟨xa, ka, e9, e8⟩ := list_name2 N2
  subst e9 e8
  have hxd : @Ne Nat xa da := by k_ne
  have hda : ∀ p ∈ news, p.1 ≠ da := by walk_at "my_fresh"
  have hlo : (da == sysModules) = false := by assumption
  refine iter_list (fun m₀ n₀ i K => ∀ m₁ o l, m₁ (Str.ofString "tree") = some (.ref T.t) → m₁ (Str.ofString "dtd") = some (.ref D.o) → m₁ (Str.ofString "found") = some (.ref da) → (o : Obj).IsDictOf (PySem.strKind PySem.Challenge.rw_sm0078_01.row.prog w) (tabV l) → l.map (fun p => (p.1, p.2.1)) = tabP (es.take i) → K m₁ ((da, o) :: (xa, listOf (intVals lx).toArray ka) :: news))
    rfl (by k_asm) N2 (.inr ⟨_, by k_mem, rfl, _, rfl⟩) (fun K k => k _ od [] (by rfl) (by rfl) (by rfl) (by assumption) rfl) ?_ ?_
  · intro I i v hv
    intro m₁ o l hm1 hm2 hm3 hd9 hl9 oI h tk S off F₁ N₁
    (try walk_at "my_fold")
    obtain ⟨p, hp, rfl⟩ := intAtL (by simpa using hv)
    have hpe := map_at hlx hp
    rw [List.getElem?_map] at hpe
    obtain ⟨e, hee, hei⟩ := Option.map_eq_some_iff.mp hpe
    obtain ⟨nd, hnd, hnm, hat, hno⟩ := he e (List.mem_of_getElem? hee)
    rw [hei] at hnd
    have hIda : @Ne Nat I da := fun e => off _ List.mem_cons_self e.symm
    have hlen := tabP_len (es.take i)
    rw [← hl9, List.length_map, List.length_take] at hlen
    have hsz : (tabV l).length ≤ sizeLine := by rw [sizeLine_eq, tabV, List.length_map]; omega
    cases htold : toldP e.ats with
    | none =>
      k_steps
      exact TE.intro (by k_asm) (by k_asm) (by walk_at "my_sub") off S (fun K k => k _ o l (by exact hm1) (by exact hm2) (by exact hm3) hd9 (by rw [hl9, take_one hee, tabP_snoc, tabStep, htold]))
    | some x =>
      have hst : tabP (es.take (i + 1)) = if (valueAt (tabV l) x).isSome = true then tabP (es.take i) else tabP (es.take i) ++ [(x, e.id)] := by rw [take_one hee, tabP_snoc, tabStep, htold, tabV_at, hl9]
      k_steps
      · rename (Option.isSome _) = true => hq9
        rw [hq9, if_pos rfl] at hst
        exact TE.intro (by k_asm) (by k_asm) (by walk_at "my_sub") off S (fun K k => k _ o l (by exact hm1) (by exact hm2) (by exact hm3) hd9 (by rw [hst, hl9]))
      · rename (Option.isSome _) = false => hq9
        rw [hq9, if_neg (by simp)] at hst
        rename Obj.IsDictOf _ _ (stored _ _ _) => hd8
        rw [stored_absent (by simpa using hq9), ← tabV_snoc] at hd8
        rename Obj => o8
        exact TE.intro (news' := (da, o8) :: (xa, listOf (intVals lx).toArray ka) :: news) (by k_asm) (by k_asm) (by walk_at "my_sub") (List.forall_mem_cons.mpr ⟨off (da, o) List.mem_cons_self, fun p hp => off p (List.mem_cons_of_mem _ hp)⟩) (.inr ⟨_, by k_mem, rfl, _, rfl⟩) (fun K k => k _ o8 (l ++ [(x, p.1, p.2)]) (by exact hm1) (by exact hm2) (by exact hm3) hd8 (by rw [hst, List.map_append, hl9, hei]; rfl))
  · intro m₁ o l hm1 hm2 hm3 hd9 hl9 h tk F₁ N₁
    k_steps
    (try walk_at "my_fold")
    have hle : (intVals lx).toArray.size = es.length := by rw [List.size_toArray, intVals_len]; have := congrArg List.length hlx; simpa using this
    rw [hle, List.take_length] at hl9
    exact hret _ _ _ _ (by k_asm) (cb_drop (by k_asm) (by walk_at "my_sub")) ⟨da, o, l, ⟨hd9, hl9, hlo, hda⟩, rfl, rfl⟩
end


-- ledgers that are put together
theorem pd_at {tl : Led} {vs : List Value} {l : List (Nat × Str)} (h : DatAll tl vs (pd l)) {j : Nat} {v : Value} (hv : vs[j]? = some v) : ∃ (q : Nat × Str) (tp : Addr) (t u : Tok) (n : Nat), l[j]? = some q ∧ v = .ref tp ∧ (tp, ({ cls := .type "tuple", data := .seq #[.int ((q.1 : Nat) : Int) t, .str q.2 u] n } : Obj)) ∈ tl := by
  have hlen := h.length
  have hj := (List.getElem?_eq_some_iff.mp hv).1
  have hj2 : j < (pd l).length := by omega
  obtain ⟨v', hv', hd⟩ := h.get hj2
  rw [hv] at hv'
  cases hv'
  have hj3 : j < l.length := by simpa [pd] using hj2
  have e : (pd l)[j] = .tuple [.int (((l[j]).1 : Nat) : Int), .str (l[j]).2] := by simp [pd]
  rw [e] at hd
  cases hd with
  | tuple hm hr =>
    cases hr with
    | cons h1 hr =>
      cases hr with
      | cons h2 hr =>
        cases hr
        cases h1
        cases h2
        exact ⟨l[j], _, _, _, _, by simp [hj3], rfl, hm⟩

-- broken_references
def everyP (es : List El) : List (Nat × Str) := es.flatMap fun e => pairsP e.ats
def brkB (es : List El) (p : Nat × Str) : Bool := !((tabP es).lookup p.2).isSome
def brokenP (es : List El) : List (Nat × Str) := (everyP es).filter (brkB es)
theorem everyP_snoc (l : List El) (e : El) : everyP (l ++ [e]) = everyP l ++ pairsP e.ats := by simp [everyP]
theorem everyP_len {T : TreeS} (hz : TOk T) {es : List El} (h : ∀ e ∈ es, ElOk T e) : (everyP es).length ≤ 100100 * es.length := by
  induction es with
  | nil => exact Nat.le_refl _
  | cons e r ih =>
    have h1 := ih fun x hx => h x (List.mem_cons_of_mem _ hx)
    obtain ⟨nd, hnd, -, hat, -⟩ := h e List.mem_cons_self
    have hvals : ∀ q ∈ e.ats, q.2.2.cps.size ≤ 1000 := fun q hq => by
      obtain ⟨an, h1, h2, h3⟩ := hat.2 q hq
      have := (hz.2 an (List.mem_of_getElem? h1)).2.2.2
      rw [← h3]; omega
    have hatl : e.ats.length ≤ 100 := by have := congrArg List.length hat.1; simp only [List.length_map] at this; have := (hz.2 nd (List.mem_of_getElem? hnd)).2.1; omega
    have h2 := pairsP_len hvals
    have ee : everyP (e :: r) = pairsP e.ats ++ everyP r := by simp [everyP]
    rw [ee, List.length_append, List.length_cons]; omega
section
theorem w27 : True := by
  k_with_none
  (k_with "~my_fold" => ((fail_if_success (fail_if_success k_fold)); (refine (let qk := _; (?_ : wpAny _ _ _ qk _ _)))))
  (k_with "~my_state" => ((fail_if_success (fail_if_success (conv => arg 6; pattern PySem.Shared.mk _ _ _ _ _))); (refine (let sk := _; (?_ : wpAny _ _ _ _ _ sk)))))
  (k_with "~my_around" => ((try refine (let vk := _; (?_ : wpAny _ _ (execs _ vk) _ _ _))); (refine (let ak := _; (?_ : wpAny _ ak _ _ _ _)))))
  (k_with "~my_enter" => (refine wpAny_call ?_; k_dflt ktr_enter; (try walk_at "my_around")))
  (k_with "~use2" => (
  (first | (refine post00 ?_; intro h9z9 tk9z9 F9z9 N9z9) | (refine post10 ?_; intro x1z9 h9z9 tk9z9 F9z9 N9z9) | (refine post20 ?_; intro x1z9 x2z9 h9z9 tk9z9 F9z9 N9z9) | (refine post21 ?_; intro x1z9 x2z9 q1z9 h9z9 tk9z9 F9z9 N9z9) | (refine post22 ?_; intro x1z9 x2z9 q1z9 q2z9 h9z9 tk9z9 F9z9 N9z9) | (refine post31 ?_; intro x1z9 x2z9 x3z9 q1z9 h9z9 tk9z9 F9z9 N9z9) | (refine post32 ?_; intro x1z9 x2z9 x3z9 q1z9 q2z9 h9z9 tk9z9 F9z9 N9z9) | (refine post33 ?_; intro x1z9 x2z9 x3z9 q1z9 q2z9 q3z9 h9z9 tk9z9 F9z9 N9z9) | (refine post41 ?_; intro x1z9 x2z9 x3z9 x4z9 q1z9 h9z9 tk9z9 F9z9 N9z9))
  (try walk_at "my_fold")
  (try dsimp only)
  (try k_sweep)
  (try walk_at "my_fold")))
  (k_with "~my_tail" => first | assumption | (refine' List.mem_cons_of_mem _ ?_; walk_at "my_tail"))
  (k_with "~my_sub" => first | exact fun _ hpz9 => hpz9 | exact List.forall_mem_nil _ | (refine' List.forall_mem_cons.mpr ⟨?_, ?_⟩; k_mem; walk_at "my_sub") | (intro pz9 hpz9; walk_at "my_tail"))
  (k_with "k_units" => ktr_units)
  (k_with "k_mem" => first | exact List.mem_cons_self | ktr_member | (refine' List.mem_cons_of_mem _ ?_; k_mem))
  (k_with "~my_and" => first | assumption | (refine And.right ?_; walk_at "my_and"))
  (k_with "~my_fresh" => first | assumption | exact ne_of_lts (by assumption) | exact ne_of_allLt (by first | assumption | exact And.right (by assumption) | exact And.right (And.right (by assumption)) | exact And.right (And.right (And.right (by assumption))) | exact And.right (And.right (And.right (And.right (by assumption)))) | exact And.right (And.right (And.right (And.right (And.right (by assumption))))) | exact And.right (And.right (And.right (And.right (And.right (And.right (by assumption)))))) | exact And.right (And.right (And.right (And.right (And.right (And.right (And.right (by assumption))))))) | exact And.right (And.right (And.right (And.right (And.right (And.right (And.right (And.right (by assumption))))))))))
  (k_with "~my_off" => first | assumption | exact List.forall_mem_nil _ | (refine' List.forall_mem_cons.mpr ⟨?_, ?_⟩; (first | k_ne | exact (by assumption : ∀ pz9 ∈ (_ : Led), pz9.1 ≠ _) _ (by k_mem)); walk_at "my_off") | (intro pz9 hpz9; first | exact (by assumption : ∀ pz9 ∈ (_ : Led), pz9.1 ≠ _) pz9 hpz9 | exact (by assumption : ∀ pz9 ∈ (_ : Led), pz9.1 ≠ _) pz9 (by walk_at "my_tail") | (have h9z9 := ltN ((by assumption : ∀ pz9 ∈ (_ : Led), pz9.1 < _) pz9 hpz9); refine neN ?_; omega)))
  (k_with "k_all" => walk_at "my_off")
  (k_with "~my_lt" => first | assumption | exact And.left (by assumption) | exact And.left (And.right (by assumption)) | exact And.left (And.right (And.right (by assumption))) | exact And.left (And.right (And.right (And.right (by assumption)))) | exact And.left (And.right (And.right (And.right (And.right (by assumption))))) | exact And.left (And.right (And.right (And.right (And.right (And.right (by assumption)))))) | exact And.left (And.right (And.right (And.right (And.right (And.right (And.right (by assumption))))))) | exact And.left (And.right (And.right (And.right (And.right (And.right (And.right (And.right (by assumption)))))))) | exact And.left (And.right (And.right (And.right (And.right (And.right (And.right (And.right (And.right (by assumption))))))))) | exact And.left (And.right (And.right (And.right (And.right (And.right (And.right (And.right (And.right (And.right (by assumption)))))))))) | exact And.left (And.right (And.right (And.right (And.right (And.right (And.right (And.right (And.right (And.right (And.right (by assumption))))))))))) | exact And.left (And.right (And.right (And.right (And.right (And.right (And.right (And.right (And.right (And.right (And.right (And.right (by assumption)))))))))))) | exact And.left (And.right (And.right (And.right (And.right (And.right (And.right (And.right (And.right (And.right (And.right (And.right (And.right (by assumption))))))))))))) | exact And.left (And.right (And.right (And.right (And.right (And.right (And.right (And.right (And.right (And.right (And.right (And.right (And.right (And.right (by assumption)))))))))))))) | exact And.left (And.right (And.right (And.right (And.right (And.right (And.right (And.right (And.right (And.right (And.right (And.right (And.right (And.right (And.right (by assumption))))))))))))))) | exact And.left (And.right (And.right (And.right (And.right (And.right (And.right (And.right (And.right (And.right (And.right (And.right (And.right (And.right (And.right (And.right (by assumption)))))))))))))))))
  (k_with "k_ne" => (refine neN ?_; (try dsimp only); first | assumption | exact Ne.symm (by assumption) | (refine Nat.ne_of_lt ?_; walk_at "my_lt") | (refine Nat.ne_of_gt ?_; walk_at "my_lt") | omega))
  (k_with "~my_for" => (k_here; (rename Fr _ _ _ _ => lF'z9); (with_unfolding_all refine' for_any lF'z9 ?_); (try walk_at "my_fold"); walk_say "MY FOR"))
  (k_with "~my_look" => first | with_reducible assumption | rfl | assumption)
  (k_with "~exec For Name Name cons nil" => walk_at "my_for")
  (k_with "~exec For Name Call cons nil" => walk_at "my_for")
  (k_with "~exec For Name List cons nil" => walk_at "my_for")
  (k_with "~exec For Tuple Name cons nil" => walk_at "my_for")
  (k_with "~exec For Tuple Call cons nil" => walk_at "my_for")
  (k_with "~exec For Name BinOp cons nil" => walk_at "my_for")
  (k_with "~TurnA" => (dsimp only [TurnA]))
  (k_with "~eval ListComp" => (k_here; k_dflt (refine' comp_any (by k_asm) (by with_unfolding_all rfl) (by decide) (by rfl) (by decide) (by decide) ?_); (try k_fold); walk_say "MY COMP"))
  (k_with "~exec Assign cons ListComp" => (k_here; k_dflt (refine' comp_assign (by k_asm) (by rfl) (by with_unfolding_all rfl) (by with_unfolding_all rfl) (by decide) (by rfl) (by decide) (by rfl) (by rfl) (by decide) ?_); (try k_fold); walk_say "MY COMP"))
  (k_with "~TestElt" => (dsimp only [TestElt]; (try k_fold)))
  (k_with "~compareOp In str ref" => (k_here; k_dflt (refine' in_tuple_strs (tupK (by k_in) (by k_is)) (by repeat constructor) ?_)))
  (k_with "~compareOp In str ref" => (k_here; k_dflt (refine' in_tuple_strs (News.isTup (by k_asm) (by k_mem)) (by repeat constructor) ?_)))
  (k_with "~my_strs" => first | exact StrsIn.of _ | exact StrsIn.nil | exact StrsIn.one _ _)
  (k_with "~compareOp Eq ref ref" => (k_here; k_dflt (refine' eq_strs (by k_asm) (by k_mem) (by k_mem) (by walk_at "my_strs") (by walk_at "my_strs") (by k_units) ?_)))
  (k_with "~compareOp NotEq ref ref" => (k_here; k_dflt (refine' ne_strs (by k_asm) (by k_mem) (by k_mem) (by walk_at "my_strs") (by walk_at "my_strs") (by k_units) ?_)))
  (k_with "~my_size" => (simp only [List.size_toArray, strValues, List.length_map, Array.length_toList, List.length_append, List.length_dropLast, List.length_cons, List.length_nil, sizeLine_eq]; omega))
  (k_with "~subscriptTail Name Slice ref ref" => (k_here; (with_reducible show wpAny _ _ (subscriptTail _ (PySem.Expr.Slice none _ none _) (Value.ref _) (Value.ref _)) _ _ _); k_dflt (refine' kms_slice_lit (by k_asm) (by k_asm) (by exact News.isList (by k_asm) (by k_mem)) (by kmk_part) (by kmk_part) (by exact pick_dropLast _) ?_ (by with_unfolding_all rfl) (by kmk_pure) (by walk_at "my_size")); intro D'z9 h'z9 F'z9 N'z9 l1z9; (try k_lt l1z9); (try k_sweep)))
  (k_with "~subscriptTail Name UnaryOp ref int" => (k_here; (with_reducible show wpAny _ _ (subscriptTail _ _ (Value.ref _) (Value.int _ _)) _ _ _); k_dflt (refine' item_last (by exact News.isList (by k_asm) (by k_mem)) (by assumption) ?_)))
  (k_with "~binaryOp Add ref ref" => (k_here; k_dflt (refine' kmk_add_lit (by k_asm) (by k_asm) (by exact News.isList (by k_asm) (by k_mem)) (by exact News.isList (by k_asm) (by k_mem)) (by first | exact add_one _ _ _ | exact add_two _ _) ?_ (by walk_at "my_size")); intro D'z9 h'z9 F'z9 N'z9 l1z9; (try k_lt l1z9); (try k_sweep)))
  (k_with "~call ref" => (k_here; (with_reducible show wpAny _ _ (call (Value.ref 52) _) _ _ _); ktf_call (c_small _ _ _ _)))
  (k_with "~my_signs" => (law_clear; simp only [s_a, s_z, s_A, s_Z, s_0, s_9, lt1, str1_eq, e_us, e_co, e_mi, e_do, smallB_iff, startB_iff, charB_iff, ← decide_not, decide_eq_decide, decide_eq_true_eq, decide_eq_false_iff_not, decide_eq_true_eq, eq_comm (a := true), Bool.not_eq_true, Bool.not_eq_false] at *; omega))
  (k_with "~call ref" => (k_here; (with_reducible show wpAny _ _ (call (Value.ref 59) _) _ _ _); ktf_call (c_start _ _ _ _ (by assumption))))
  (k_with "~call ref" => (k_here; (with_reducible show wpAny _ _ (call (Value.ref 66) _) _ _ _); ktf_call (c_char _ _ _ _ (by assumption))))
  (k_with "~call ref" => (k_here; (with_reducible show wpAny _ _ (call (Value.ref 73) _) _ _ _); ktf_call (c_nmtoken _ _ _ _ (by assumption))))
  (k_with "~call ref" => (k_here; (with_reducible show wpAny _ _ (call (Value.ref 80) _) _ _ _); ktf_call (c_name _ _ _ _ (by assumption))))
  (k_with "~call ref" => (k_here; (with_reducible show wpAny _ _ (call (Value.ref 121) _) _ _ _); ktf_call (c_blank _ _ _ _ (by assumption))))
  (k_with "~call ref" => (k_here; (with_reducible show wpAny _ _ (call (Value.ref 128) _) _ _ _); ktf_call (c_norm _ _ _ _ _ _ (by assumption))))
  (k_with "~call ref" => (k_here; (with_reducible show wpAny _ _ (call (Value.ref 135) _) _ _ _); ktf_call (c_words _ _ _ _ _ _ (by assumption))))
  (k_with "~call ref" => (k_here; (with_reducible show wpAny _ _ (call (Value.ref 142) _) _ _ _); ktf_call (c_isword _ _ _ _ _ _ (by assumption))))
  (k_with "~call ref" => (k_here; (with_reducible show wpAny _ _ (call (Value.ref 149) _) _ _ _); ktf_call (c_fits _ _ _ _ _ _ _ _ _ _ _ _ _ _ _ _ _ _ _ _ (by assumption) (by assumption) (by k_mem) (by k_mem) (by k_mem) (by assumption))))
  (k_with "~call ref" => (k_here; (with_reducible show wpAny _ _ (call (Value.ref 566) _) _ _ _); ktf_call (c_lawword _ _ _ _ _ (by assumption) (by assumption))))
  (k_with "~call ref" => (k_here; (with_reducible show wpAny _ _ (call (Value.ref 561) _) _ _ _); ktf_call (c_parted _ _ _ _ (by assumption) (by assumption))))
  (k_with "~call builtin:len" => (k_here; (with_reducible show wpAny _ _ (call (Value.builtin _) [Value.ref _]) _ _ _); k_dflt (refine' len_at (by exact News.isList (by k_asm) (by k_mem)) (by first | omega | ((simp only [List.length_cons, List.length_nil, List.length_append, List.length_map, strValues]); omega)) ?_)))
  (k_with "~my_pick" => first | exact Pick.head | (refine' Pick.tail (by walk_at "my_pick")))
  (k_with "~call ref" => (k_here; (with_reducible show wpAny _ _ (call (Value.ref 542) _) _ _ _); ktr_call (c_take _ _ _ _ _ _ (by assumption) (by first | assumption | decide) (by first | assumption | decide) (by walk_at "my_off")) ()))
  (k_with "~call ref" => (k_here; (with_reducible show wpAny _ _ (call (Value.ref 549) _) _ _ _); ktr_call (c_one _ _ _ _ _ _ _ (by assumption) (by k_mem) (by first | assumption | exact Nat.le_of_ble_eq_true rfl) (by first | assumption | exact Nat.le_of_ble_eq_true rfl) (by walk_at "my_off")) ()))
  (k_with "~call ref" => (k_here; (with_reducible show wpAny _ _ (call (Value.ref 554) _) _ _ _); ktr_call (c_value _ _ _ _ (by assumption) (by walk_at "my_off")) ()))
  (k_with "~call ref" => (k_here; (with_reducible show wpAny _ _ (call (Value.ref 571) _) _ _ _); ktf_call (c_kind _ _ _ _ _ _ (by first | assumption | decide +kernel) (by k_asm))))
  (k_with "~my_tree" => first | assumption | (refine TreeIn.mono ?_ (by assumption); walk_at "my_sub"))
  (k_with "~call ref" => (k_here; (with_reducible show wpAny _ _ (call (Value.ref 367) _) _ _ _); ktf_call (c_row _ _ _ _ _ _ (by walk_at "my_tree") (by assumption) (by assumption))))
  (k_with "~call ref" => (k_here; (with_reducible show wpAny _ _ (call (Value.ref 444) _) _ _ _); ktf_call (c_tkind _ _ _ _ _ _ (by walk_at "my_tree") (by assumption) (by assumption))))
  (k_with "~call ref" => (k_here; (with_reducible show wpAny _ _ (call (Value.ref 451) _) _ _ _); ktf_call (c_tname _ _ _ _ _ _ (by walk_at "my_tree") (by assumption) (by assumption))))
  (k_with "~call ref" => (k_here; (with_reducible show wpAny _ _ (call (Value.ref 472) _) _ _ _); ktf_call (c_tvalue _ _ _ _ _ _ (by walk_at "my_tree") (by assumption) (by assumption))))
  (k_with "~call ref" => (k_here; (with_reducible show wpAny _ _ (call (Value.ref 486) _) _ _ _); ktf_call (c_children _ _ _ _ _ _ (by walk_at "my_tree") (by assumption) (by assumption))))
  (k_with "~call ref" => (k_here; (with_reducible show wpAny _ _ (call (Value.ref 493) _) _ _ _); ktf_call (c_attributes _ _ _ _ _ _ (by walk_at "my_tree") (by assumption) (by assumption))))
  (k_with "~call ref" => (k_here; (with_reducible show wpAny _ _ (call (Value.ref 451) _) _ _ _); ktf_call (c_tnameX _ _ _ _ _ _ _ (by walk_at "my_tree") (by assumption) (by assumption) (by first | assumption | exact rfl))))
  (k_with "k_ne" => (refine neN ?_; (try dsimp only); first | assumption | exact Ne.symm (by assumption) | (refine Nat.ne_of_lt ?_; walk_at "my_lt") | (refine Nat.ne_of_gt ?_; walk_at "my_lt") | omega | exact ne_of_mem (by assumption) (by k_mem) | exact Ne.symm (ne_of_mem (by assumption) (by k_mem))))
  (k_with "~exec While Compare cons nil" => (k_here; (rename Fr _ _ _ _ => lF'z9); (with_unfolding_all refine' while_any lF'z9 ?_); walk_say "MY WHILE"))
  (k_with "~my_ints" => first | exact IntsIn.of _ | exact IntsIn.nil | exact IntsIn.snoc _ _ _)
  (k_with "~compareOp Eq ref ref" => (k_here; k_dflt (refine' eq_ints (by k_asm) (by k_mem) (by k_mem) (by walk_at "my_ints") (by walk_at "my_ints") (by k_units) ?_)))
  (k_with "~compareOp NotEq ref ref" => (k_here; k_dflt (refine' ne_ints (by k_asm) (by k_mem) (by k_mem) (by walk_at "my_ints") (by walk_at "my_ints") (by k_units) ?_)))
  (k_with "~my_size" => (simp only [List.size_toArray, strValues, intVals, refVals, List.length_map, Array.length_toList, List.length_append, List.length_reverse, List.length_dropLast, List.length_cons, List.length_nil, sizeLine_eq]; omega))
  (k_with "~call builtin:list.append" => (k_here; (with_reducible show wpAny _ _ (call (Value.builtin _) [Value.ref _, _]) _ _ _); k_dflt (refine' append_my (by k_asm) (by k_asm) (by k_upd) (by walk_at "my_size") ?_); intro h'z9 F'z9 N'z9; (try k_sweep)))
  (k_with "~call builtin:list.pop" => (k_here; (with_reducible show wpAny _ _ (call (Value.builtin _) [Value.ref _]) _ _ _); k_dflt (refine' pop_my (by k_asm) (by k_asm) (by k_upd) (by walk_at "my_size") ?_); intro h'z9 F'z9 N'z9; (try k_sweep)))
  (k_with "~call builtin:list.extend" => (k_here; (with_reducible show wpAny _ _ (call (Value.builtin _) [Value.ref _, Value.ref _]) _ _ _); k_dflt (refine' extend_my (by k_asm) (by k_asm) (by k_mem) (by (intro k8z9; k_upd)) (by walk_at "my_size") ?_); intro k9z9 h'z9 F'z9 N'z9; (try dsimp only at N'z9); (try k_sweep)))
  (k_with "~subscriptTail Name Slice ref ref" => (k_here; (with_reducible show wpAny _ _ (subscriptTail _ (PySem.Expr.Slice none none (some _) _) (Value.ref _) (Value.ref _)) _ _ _); k_dflt (refine' rev_my (by k_asm) (by k_asm) (by exact News.isList (by k_asm) (by k_mem)) (by exact IsPart.int _ _) (by with_unfolding_all rfl) (by kmk_pure) (by walk_at "my_size") ?_); intro D'z9 h'z9 F'z9 N'z9 l1z9; (try k_lt l1z9); (try k_sweep)))
  (k_with "~my_dtd" => first | assumption | (refine DtdIn.mono ?_ (by assumption); walk_at "my_sub"))
  (k_with "~call ref" => (k_here; (with_reducible show wpAny _ _ (call (Value.ref 289) _) _ _ _); ktf_call (c_idname _ _ _ _ (by walk_at "my_dtd"))))
  (k_with "~call ref" => (k_here; (with_reducible show wpAny _ _ (call (Value.ref 277) _) _ _ _); ktf_call (c_rule _ _ _ _ _ _ _ (by walk_at "my_dtd") (by assumption))))
  (k_with "~call ref" => (k_here; (with_reducible show wpAny _ _ (call (Value.ref 156) _) _ _ _); ktf_call (c_walk _ _ _ _ _ _ (by walk_at "my_tree") (by assumption) (by assumption) (by assumption) (by assumption))))
  (k_with "~call ref" => (k_here; (with_reducible show wpAny _ _ (call (Value.ref 170) _) _ _ _); ktf_call (c_idtable _ _ _ _ _ _ (by walk_at "my_tree") (by walk_at "my_dtd") (by assumption) (by assumption))))
  (k_with "~my_tail" => first | assumption | (refine' List.mem_cons_of_mem _ ?_; walk_at "my_tail") | (refine' List.mem_append_left _ ?_; walk_at "my_tail") | (refine' List.mem_append_right _ ?_; walk_at "my_tail"))
  (k_with "k_mem" => first | exact List.mem_cons_self | ktr_member | (refine' List.mem_cons_of_mem _ ?_; k_mem) | (refine' List.mem_append_right _ ?_; k_mem) | (refine' List.mem_append_left _ ?_; k_mem))
  (k_with "~my_sub" => first | exact fun _ hpz9 => hpz9 | exact List.forall_mem_nil _ | (refine' List.forall_mem_cons.mpr ⟨?_, ?_⟩; k_mem; walk_at "my_sub") | (intro pz9 hpz9; walk_at "my_tail") | (refine' List.forall_mem_append.mpr ⟨?_, ?_⟩; walk_at "my_sub"; walk_at "my_sub"))
  (k_with "k_room" => ktr_room)
  (k_with "~call ref" => (k_here; (with_reducible show wpAny _ _ (call (Value.ref 177) _) _ _ _); ktf_call (c_refs _ _ _ _ _ _ _ _ (by walk_at "my_tree") (by walk_at "my_dtd") (by assumption) (by assumption) (by assumption) (by assumption) (by assumption))))
  (k_with "~compareOp NotIn str ref" => (k_here; k_dflt (refine kdg_notin (knd := PySem.strKind _ _) (by k_asm) (by k_mem) (by k_asm) (by k_asm) (strKind_is _ _ _ _) _ rfl ?_)))
  trivial
set_option maxHeartbeats 8000000 in
theorem c_broken (w : World) (T : TreeS) (D : DtdS) (es : List El) (tk : Tok) (news : Led) (hT : TreeIn news T) (hD : DtdIn w news D) (hz : TOk T) (hes : ElsOk T es) :
    Con w 11 184 [.ref T.t, .int (((0 : Nat) : Nat) : Int) tk, .ref D.o] news (fun news' r => ∃ a n vs tl, (DatAll tl vs (pd (brokenP es)) ∧ Fresh tl news ∧ (∀ p ∈ tl, p.1 ≠ a) ∧ (∀ p ∈ news, p.1 ≠ a)) ∧ r = .ref a ∧ news' = (a, listOf vs.toArray n) :: (tl ++ news)) := by
  have hes' := hes
  obtain ⟨he, ⟨nd0, hn0, hwk⟩, hel⟩ := hes'
  have hol : (es.map (·.id)).length ≤ 100 := by rw [List.length_map]; omega
  unfold Con; k_fill; intro loose mean mg mb dp un gd cn cs a ccd cl outer A₀ base h₀ L m s Q E B F X N Tp hk hdp hun hret; walk_at "my_enter"
  k_steps
  (try walk_at "my_fold")
  rename List (Nat × Tok) => lx
  rename List.map _ _ = List.map _ es => hlx
  rename Obj => ko
  rename Obj.IsDictOf _ _ _ ∧ _ => hk9
  have hk1 := hk9.1
  have hk2 := hk9.2.1
  have hk3 := hk9.2.2.1
  clear hk9
  rename List (Str × Nat × Tok) => lt
  rename News _ _ _ _ => N1
  have N2 := cb_drop (news := (_, listOf #[] 0) :: (_, listOf (intVals lx).toArray _) :: (_, ko) :: news) N1 (by walk_at "my_sub")
  obtain ⟨fa, e9⟩ := head_name N2
  subst e9
  obtain ⟨xa, ka, e9, e8⟩ := list_name2 N2
  subst e9 e8
  obtain ⟨da, e9⟩ := head_name fun p hp => N2 p (List.mem_cons_of_mem _ (List.mem_cons_of_mem _ hp))
  subst e9
  have hxf : @Ne Nat xa fa := by k_ne
  have hdf : @Ne Nat da fa := by k_ne
  have hfa : ∀ p ∈ news, p.1 ≠ fa := by walk_at "my_fresh"
  refine iter_list (fun m₀ n₀ i K => ∀ m₁ kf vs tl, m₁ (Str.ofString "tree") = some (.ref T.t) → m₁ (Str.ofString "dtd") = some (.ref D.o) → m₁ (Str.ofString "known") = some (.ref da) → m₁ (Str.ofString "found") = some (.ref fa) → RInv fa tl news vs ((everyP (es.take i)).filter (brkB es)) →
      K m₁ ((fa, listOf vs.toArray kf) :: (xa, listOf (intVals lx).toArray ka) :: (da, ko) :: (tl ++ news)))
    rfl (by k_asm) N2 (.inr ⟨_, by k_mem, rfl, _, rfl⟩) (fun K k => k _ 0 [] [] (by rfl) (by rfl) (by rfl) (by rfl) RInv.nil) ?_ ?_
  · intro I i v hv
    intro m₁ kf vs tl hm1 hm2 hm3 hm4 hR oI h tk S off F₁ N₁
    (try walk_at "my_fold")
    obtain ⟨p, hp, rfl⟩ := intAtL (by simpa using hv)
    have hpe := map_at hlx hp
    rw [List.getElem?_map] at hpe
    obtain ⟨e, hee, hei⟩ := Option.map_eq_some_iff.mp hpe
    obtain ⟨nd, hnd, hnm, hat, hno⟩ := he e (List.mem_of_getElem? hee)
    rw [hei] at hnd
    obtain ⟨tn, htn⟩ : ∃ tn, tn = tl ++ news := ⟨_, rfl⟩
    rw [← htn] at off N₁
    have hsub : ∀ p ∈ news, p ∈ tn := fun p hp => htn ▸ List.mem_append_right _ hp
    have hT2 := hT.mono hsub
    have hD2 := hD.mono hsub
    have htf : ∀ p ∈ tn, p.1 ≠ fa := by rw [htn]; exact List.forall_mem_append.mpr ⟨hR.2.2, hfa⟩
    have off' : ∀ p ∈ tn, p.1 ≠ I := fun p hp => off p (List.mem_cons_of_mem _ (List.mem_cons_of_mem _ (List.mem_cons_of_mem _ hp)))
    have hIf : @Ne Nat I fa := fun e => off _ List.mem_cons_self e.symm
    k_steps
    (try walk_at "my_fold")
    rename DatAll _ _ _ ∧ _ => hf9
    have hf1 := hf9.1
    have hf2 := hf9.2.1
    have hf4 := hf9.2.2.2
    clear hf9
    rename List (Addr × Obj) => tlr
    rename List Value => rvs
    rename News _ _ _ _ => N3
    obtain ⟨ra, kr, e9, e8⟩ := list_name N3
    subst e9 e8
    have hrf : ∀ p ∈ tlr, p.1 ≠ fa := fun p hp e => hf2 p hp _ (List.mem_cons_of_mem _ List.mem_cons_self) e.symm
    have hrf2 : @Ne Nat ra fa := fun e => hf4 _ (List.mem_cons_of_mem _ List.mem_cons_self) e.symm
    refine iter_list (fun m₀ n₀ j K => ∀ m₁ kf' vs' tl', m₁ (Str.ofString "tree") = some (.ref T.t) → m₁ (Str.ofString "dtd") = some (.ref D.o) → m₁ (Str.ofString "known") = some (.ref da) → m₁ (Str.ofString "found") = some (.ref fa) → (∀ p ∈ tl', p.1 ≠ I) → RInv fa tl' news vs' ((everyP (es.take i)).filter (brkB es) ++ ((pairsP e.ats).take j).filter (brkB es)) →
        K m₁ ((fa, listOf vs'.toArray kf') :: (ra, listOf rvs.toArray kr) :: (xa, listOf (intVals lx).toArray ka) :: (da, ko) :: (I, oI) :: (tl' ++ (tlr ++ news))))
      rfl (by k_asm) (cb_drop (news := (fa, listOf vs.toArray kf) :: (ra, listOf rvs.toArray kr) :: (xa, listOf (intVals lx).toArray ka) :: (da, ko) :: (I, oI) :: (tl ++ (tlr ++ news))) N3 (by subst htn; walk_at "my_sub")) (.inr ⟨_, by k_mem, rfl, _, rfl⟩)
      (fun K k => k _ _ vs tl (by exact hm1) (by exact hm2) (by exact hm3) (by exact hm4) (fun p hp => off' p (htn ▸ List.mem_append_left _ hp)) (by simpa using hR)) ?_ ?_
    · intro I2 j v hv2
      intro m₂ kf' vs' tl' hn1 hn2 hn3 hn4 hti hR2 oI2 h2 tk2 S2 off2 F₂ N₂
      (try walk_at "my_fold")
      obtain ⟨q, tp, t8, u8, n8, hq9, rfl, hm8⟩ := pd_at hf1 (by simpa using hv2)
      have hlv := hR2.len
      have hb1 : ((everyP (es.take i)).filter (brkB es)).length ≤ (everyP (es.take i)).length := List.length_filter_le _ _
      have hb2 : (((pairsP e.ats).take j).filter (brkB es)).length ≤ ((pairsP e.ats).take j).length := List.length_filter_le _ _
      have hb3 := everyP_len hz (es := es.take i) fun x hx => he x (List.mem_of_mem_take hx)
      have hb4 := everyP_len hz (es := [e]) fun x hx => by rw [List.mem_singleton.mp hx]; exact he e (List.mem_of_getElem? hee)
      have hb5 : everyP [e] = pairsP e.ats := by simp [everyP]
      rw [hb5] at hb4
      rw [List.length_take] at hb2 hb3
      rw [List.length_append] at hlv
      simp only [List.length_cons, List.length_nil] at hb4
      have hlv2 : vs'.length ≤ 2000000 := by omega
      clear hlv hb1 hb2 hb3 hb4 hb5
      have hI2f : @Ne Nat I2 fa := fun e => off2 _ List.mem_cons_self e.symm
      have hrI2 : @Ne Nat ra I2 := off2 _ (List.mem_cons_of_mem _ List.mem_cons_self)
      have hxI2 : @Ne Nat xa I2 := off2 _ (List.mem_cons_of_mem _ (List.mem_cons_of_mem _ List.mem_cons_self))
      have hdI2 : @Ne Nat da I2 := off2 _ (List.mem_cons_of_mem _ (List.mem_cons_of_mem _ (List.mem_cons_of_mem _ List.mem_cons_self)))
      have hII2 : @Ne Nat I I2 := off2 _ (List.mem_cons_of_mem _ (List.mem_cons_of_mem _ (List.mem_cons_of_mem _ (List.mem_cons_of_mem _ List.mem_cons_self))))
      obtain ⟨tn2, htn2⟩ : ∃ tn, tn = tl' ++ (tlr ++ news) := ⟨_, rfl⟩
      have off3 : ∀ p ∈ tn2, p.1 ≠ I2 := fun p hp => off2 p (List.mem_cons_of_mem _ (List.mem_cons_of_mem _ (List.mem_cons_of_mem _ (List.mem_cons_of_mem _ (List.mem_cons_of_mem _ (htn2 ▸ hp))))))
      have N₃ := N₂
      rw [← htn2] at N₃
      have hm8' : (tp, ({ cls := .type "tuple", data := .seq #[.int ((q.1 : Nat) : Int) t8, .str q.2 u8] n8 } : Obj)) ∈ tn2 := htn2 ▸ List.mem_append_right _ (List.mem_append_left _ hm8)
      have htf2 : ∀ p ∈ tn2, p.1 ≠ fa := by rw [htn2]; exact List.forall_mem_append.mpr ⟨hR2.2.2, List.forall_mem_append.mpr ⟨hrf, hfa⟩⟩
      have hbk : brkB es q = !(valueAt (tabV lt) q.2).isSome := by unfold brkB; rw [tabV_at, hk2]
      have hst : ((pairsP e.ats).take (j + 1)).filter (brkB es) = ((pairsP e.ats).take j).filter (brkB es) ++ [q].filter (brkB es) := by rw [take_one hq9, List.filter_append]
      clear N₂
      k_steps
      · rename (Option.isSome _) = true => hq8
        subst htn2
        exact TE.intro (by k_asm) (by k_asm) (by walk_at "my_sub") off2 S2 (fun K k => k _ kf' vs' tl' (by exact hn1) (by exact hn2) (by exact hn3) (by exact hn4) hti (by rw [hst, List.filter_cons, hbk, hq8]; simpa using hR2))
      · rename (Option.isSome _) = false => hq8
        subst htn2
        refine TE.intro (by k_asm) (by k_asm) (by walk_at "my_sub") ?_ (.inr ⟨_, by k_mem, rfl, _, rfl⟩) (fun K k => k _ _ (vs' ++ [.ref _]) ((_, _) :: tl') (by exact hn1) (by exact hn2) (by exact hn3) (by exact hn4) (List.forall_mem_cons.mpr ⟨by k_ne, hti⟩) (by
          rw [hst, List.filter_cons, hbk, hq8, ← List.append_assoc]
          exact hR2.snoc (fun p hp => (show ∀ p ∈ tl' ++ (tlr ++ news), p.1 ≠ _ from by walk_at "my_fresh") p (List.mem_append_right _ (List.mem_append_right _ hp))) (by k_ne)))
        walk_at "my_off"
    · intro m₂ kf' vs' tl' hn1 hn2 hn3 hn4 hti hR2 h2 tk2 F₂ N₂
      k_steps
      (try walk_at "my_fold")
      have hlr : rvs.toArray.size = (pairsP e.ats).length := by have := hf1.length; simp only [pd, List.length_map] at this; rw [List.size_toArray, this]
      rw [hlr, List.take_length, ← List.filter_append, ← everyP_snoc, ← take_one hee] at hR2
      exact TE.intro (news' := (fa, listOf vs'.toArray _) :: (xa, listOf (intVals lx).toArray ka) :: (da, ko) :: (tl' ++ news)) (by k_asm) (by k_asm) (by walk_at "my_sub") (List.forall_mem_cons.mpr ⟨by exact off (fa, listOf vs.toArray kf) List.mem_cons_self, List.forall_mem_cons.mpr ⟨off _ (List.mem_cons_of_mem _ List.mem_cons_self), List.forall_mem_cons.mpr ⟨off _ (List.mem_cons_of_mem _ (List.mem_cons_of_mem _ List.mem_cons_self)), List.forall_mem_append.mpr ⟨hti, fun p hp => off' p (hsub p hp)⟩⟩⟩⟩) (.inr ⟨_, by k_mem, rfl, _, rfl⟩) (fun K k => k _ _ vs' tl' (by exact hn1) (by exact hn2) (by exact hn3) (by exact hn4) hR2)
  · intro m₁ kf vs tl hm1 hm2 hm3 hm4 hR h tk F₁ N₁
    k_steps
    (try walk_at "my_fold")
    have hle : (intVals lx).toArray.size = es.length := by rw [List.size_toArray, intVals_len]; have := congrArg List.length hlx; simpa using this
    rw [hle, List.take_length] at hR
    exact hret _ _ _ _ (by k_asm) (cb_drop (by k_asm) (by walk_at "my_sub")) ⟨fa, kf, vs, tl, ⟨hR.1, hR.2.1, hR.2.2, hfa⟩, rfl, rfl⟩
end

-- a comprehension whose target is a tuple of names, over a list of tuples of the ledger
def updAll (m : Str → Option Value) : List (Str × Pos) → List Value → Str → Option Value
  | x :: xs, v :: vs => updAll (fun y => if y = x.1 then some v else m y) xs vs
  | _, _ => m
def BndT (xs : List (Str × Pos)) (vs : List Value) (m₂ : Str → Option Value) : Prop := ∃ m', m₂ = updAll m' xs vs
section
open LCg
variable {prog : Program} {w : World} {A : Around} {E : Value → Shared → Prop} {s : Shared} {h₀ : Heap} {L : Addr} {m : Str → Option Value} {env : Env} {news : Led}
theorem assignEach_names (xs : List (Str × Pos)) (env : Env) : assignEach (xs.map fun x => Expr.Name x.1 x.2) env = xs.map fun x => (false, assign (.Name x.1 x.2) env) := by
  induction xs with
  | nil => rfl
  | cons x r ih => simp only [List.map_cons, assignEach, ih]
theorem assign_names {scope : Scope} {cl : List (Str × Addr)} {C : Addr} {E' : Value → Shared → Prop} {s₂ : Shared} (hkind : scope.kind = .function) (xs : List (Str × Pos)) : ∀ (vs : List Value) (m' : Str → Option Value) (h : Heap) (tk : Nat) (Q' : Unit → Shared → Prop), xs.length = vs.length → (∀ x ∈ xs, scope.names.lookup x.1 = some .local) → h.Ns C m' →
    (∀ h' tk', h'.Ns C (updAll m' xs vs) → (∀ c o, c ≠ C → h.get? c = some o → h'.get? c = some o) → Q' () { s₂ with heap := h', toks := tk' }) →
    wpAny (model prog w) A (assignInOrder (xs.map fun x => assign (.Name x.1 x.2) (compEnvC scope cl C env)) vs) Q' E' { s₂ with heap := h, toks := tk } := by
  induction xs with
  | nil =>
    intro vs m' h tk Q' hl _ hn q
    cases vs with
    | nil => exact wpAny_pure (q h tk hn fun _ _ _ e => e)
    | cons _ _ => simp at hl
  | cons x xs ih =>
    intro vs m' h tk Q' hl hx hn q
    cases vs with
    | nil => simp at hl
    | cons v vs =>
      rw [List.map_cons, assignInOrder]
      refine wpAny_bind (wpAny_holding (wpAny_assign_Name (wpAny_storeName_local (lookup_relabel_local (hx x List.mem_cons_self)) hn (fun h₃ hn₃ hs₃ => ?_) (by simp [compEnvC, relabel, hkind]))))
      exact ih vs _ h₃ _ Q' (by simpa using hl) (fun y hy => hx y (List.mem_cons_of_mem _ hy)) hn₃ fun h' tk' hn' hk' => q h' tk' hn' fun c o hc e => hk' c o hc (hs₃.extBut c o hc e)
theorem comp_tups {ax : Addr} {its : Array Value} {xs : List (Str × Pos)} {kk : Nat} {pt : Pos} {vals : Nat → List Value} {tl : Led} {elt : Expr} {ifs : List Expr} {scope : Scope} {cl : List (Str × Addr)} {Fin : Shared → List Value → Led → Prop} (J : Led → Nat → (List Value → Led → Prop) → Prop)
    (hh : A.handled = none) (F : Fr h₀ L s.heap m) (N : News h₀ L s.heap news) (S : SrcAt h₀ ax its news) (htl : ∀ p ∈ tl, p ∈ news)
    (hit : ∀ i v, its[i]? = some v → ∃ tp n, v = .ref tp ∧ (tp, ({ cls := .type "tuple", data := .seq (vals i).toArray n } : Obj)) ∈ tl) (hlen : ∀ i v, its[i]? = some v → xs.length = (vals i).length) (hsz : its.size ≤ sizeLine) (hx : ∀ x ∈ xs, scope.names.lookup x.1 = some .local) (hkind : scope.kind = .function) (hJ : ∀ K : List Value → Led → Prop, J news 0 K → K [] news)
    (turn : ∀ i v g, its[i]? = some v → CTurn prog w A h₀ L m env elt ifs scope cl (fun nw => SrcAt h₀ ax its nw ∧ ∀ p ∈ tl, p ∈ nw) { s with heap := g } (BndT xs (vals i)) (J news i) (J news (i + 1)))
    (done : ∀ g, J news its.size fun ys news₁ => Fin { s with heap := g } ys news₁) :
    wpAny (model prog w) A (pyIter (.ref ax)) (fun it s₂ => CompAny prog w A h₀ L m env elt (.Tuple (xs.map fun x => .Name x.1 x.2) kk pt) ifs scope cl Fin it s₂) E s := by
  have hl := S.list F.keep N
  have hlt : ax < s.heap.objs.size := by obtain ⟨_, e, _⟩ := hl; exact Heap.lt_size e
  refine wpAny_pyIter_list hl ?_
  have up : ∀ b o, s.heap.get? b = some o → (s.heap.push { cls := .type "list_iterator", data := .fields #[.ref ax, .int 0 0] }).get? b = some o := fun b o e => Heap.get?_push_of_some _ e
  refine .mk _ _ _ its.size _ (fun i _ m₂ => BndT xs (vals i) m₂) _ (fun nw => SrcAt h₀ ax its nw ∧ ∀ p ∈ tl, p ∈ nw) news (J news) (Walks.list hh s.heap.objs.size ax (Nat.ne_of_lt hlt) its) hsz (fun i h st => by obtain ⟨o, e, _⟩ := st.1; exact ⟨o, e⟩) (fun i h h' o nw st e e' k N' hS => list_st i h h' o nw st e e' k N' hS.1) (fun _ _ _ _ _ st q => go_tuple st.1 q) (fun b hb => ?_) ?_
    ⟨⟨_, Heap.get?_push_size _ rfl, rfl, rfl⟩, hl.push _⟩ (F.keeps up) (N.grown up) (Nat.ne_of_lt F.ns.lt) (next_is_new F) (fun p hp => Nat.ne_of_lt (Heap.lt_size (N p hp).1)) ⟨S, htl⟩ hJ (fun i v _ hP => turn i v _ hP _) (done _)
  · show b < (s.heap.push _).objs.size
    rw [Heap.size_push]
    rcases List.mem_cons.mp hb with rfl | hb
    · exact Nat.lt_succ_self _
    · rw [List.mem_singleton.mp hb]; exact Nat.lt_succ_of_lt hlt
  · intro i v news₁ C m' h tk Q' E' hP hS _ N' hn _ q
    obtain ⟨tp, n, rfl, hm⟩ := hit i v hP
    have ht : IsTup h tp (vals i).toArray := News.isTup N' (hS.2 _ hm)
    have hC : C < h.objs.size := hn.lt
    refine assign_Tuple_tuple hh ht (by rw [assignEach_names, List.length_map, List.size_toArray]; exact hlen i _ hP) (by rw [assignEach_names]; simp) fun h' he => ?_
    have e : (assignEach (xs.map fun x => Expr.Name x.1 x.2) (compEnvC scope cl C env)).map (·.2) = xs.map fun x => assign (.Name x.1 x.2) (compEnvC scope cl C env) := by rw [assignEach_names, List.map_map]; rfl
    rw [e]
    exact assign_names hkind xs (vals i) _ h' _ _ (hlen i _ hP) hx (hn.at' fun o ho => he _ o (Nat.ne_of_lt hC) ho) fun h₃ tk₃ hn₃ hk₃ => q h₃ tk₃ _ hn₃ ⟨m', rfl⟩ fun c o hc ec => hk₃ c o hc (he c o (Nat.ne_of_lt (Heap.lt_size ec)) ec)
end

-- referring
def refB (x : Str) (e : El) : Bool := (pairsP e.ats).any fun p => p.2 == x
def referP (es : List El) (x : Str) : List Nat := (es.filter (refB x)).map (·.id)
theorem pd_vals {tl : Led} {vs : List Value} {l : List (Nat × Str)} (h : DatAll tl vs (pd l)) : ∃ vals : Nat → List Value, ∀ (j : Nat) (v : Value), vs[j]? = some v → ∃ (q : Nat × Str) (t u : Tok), l[j]? = some q ∧ vals j = [.int ((q.1 : Nat) : Int) t, .str q.2 u] ∧ ∃ (tp : Addr) (n : Nat), v = .ref tp ∧ (tp, ({ cls := .type "tuple", data := .seq (vals j).toArray n } : Obj)) ∈ tl := by
  have : ∀ j : Nat, ∃ w : List Value, ∀ v : Value, vs[j]? = some v → ∃ (q : Nat × Str) (t u : Tok), l[j]? = some q ∧ w = [.int ((q.1 : Nat) : Int) t, .str q.2 u] ∧ ∃ (tp : Addr) (n : Nat), v = .ref tp ∧ (tp, ({ cls := .type "tuple", data := .seq w.toArray n } : Obj)) ∈ tl := fun j => by
    cases e : vs[j]? with
    | none => exact ⟨[], fun v hv => by cases hv⟩
    | some v =>
      obtain ⟨q, tp, t, u, n, h1, h2, h3⟩ := pd_at h e
      exact ⟨[.int ((q.1 : Nat) : Int) t, .str q.2 u], fun v' hv' => by cases hv'; exact ⟨q, t, u, h1, rfl, tp, n, h2, h3⟩⟩
  exact ⟨fun j => (this j).choose, fun j v hv => (this j).choose_spec v hv⟩
theorem referP_snoc (l : List El) (e : El) (x : Str) : referP (l ++ [e]) x = referP l x ++ if refB x e = true then [e.id] else [] := by
  unfold referP; rw [List.filter_append, List.map_append, List.filter_cons]; split <;> simp
section
theorem w28 : True := by
  k_with_none
  (k_with "~my_fold" => ((fail_if_success (fail_if_success k_fold)); (refine (let qk := _; (?_ : wpAny _ _ _ qk _ _)))))
  (k_with "~my_state" => ((fail_if_success (fail_if_success (conv => arg 6; pattern PySem.Shared.mk _ _ _ _ _))); (refine (let sk := _; (?_ : wpAny _ _ _ _ _ sk)))))
  (k_with "~my_around" => ((try refine (let vk := _; (?_ : wpAny _ _ (execs _ vk) _ _ _))); (refine (let ak := _; (?_ : wpAny _ ak _ _ _ _)))))
  (k_with "~my_enter" => (refine wpAny_call ?_; k_dflt ktr_enter; (try walk_at "my_around")))
  (k_with "~use2" => (
  (first | (refine post00 ?_; intro h9z9 tk9z9 F9z9 N9z9) | (refine post10 ?_; intro x1z9 h9z9 tk9z9 F9z9 N9z9) | (refine post20 ?_; intro x1z9 x2z9 h9z9 tk9z9 F9z9 N9z9) | (refine post21 ?_; intro x1z9 x2z9 q1z9 h9z9 tk9z9 F9z9 N9z9) | (refine post22 ?_; intro x1z9 x2z9 q1z9 q2z9 h9z9 tk9z9 F9z9 N9z9) | (refine post31 ?_; intro x1z9 x2z9 x3z9 q1z9 h9z9 tk9z9 F9z9 N9z9) | (refine post32 ?_; intro x1z9 x2z9 x3z9 q1z9 q2z9 h9z9 tk9z9 F9z9 N9z9) | (refine post33 ?_; intro x1z9 x2z9 x3z9 q1z9 q2z9 q3z9 h9z9 tk9z9 F9z9 N9z9) | (refine post41 ?_; intro x1z9 x2z9 x3z9 x4z9 q1z9 h9z9 tk9z9 F9z9 N9z9))
  (try walk_at "my_fold")
  (try dsimp only)
  (try k_sweep)
  (try walk_at "my_fold")))
  (k_with "~my_tail" => first | assumption | (refine' List.mem_cons_of_mem _ ?_; walk_at "my_tail"))
  (k_with "~my_sub" => first | exact fun _ hpz9 => hpz9 | exact List.forall_mem_nil _ | (refine' List.forall_mem_cons.mpr ⟨?_, ?_⟩; k_mem; walk_at "my_sub") | (intro pz9 hpz9; walk_at "my_tail"))
  (k_with "k_units" => ktr_units)
  (k_with "k_mem" => first | exact List.mem_cons_self | ktr_member | (refine' List.mem_cons_of_mem _ ?_; k_mem))
  (k_with "~my_and" => first | assumption | (refine And.right ?_; walk_at "my_and"))
  (k_with "~my_fresh" => first | assumption | exact ne_of_lts (by assumption) | exact ne_of_allLt (by first | assumption | exact And.right (by assumption) | exact And.right (And.right (by assumption)) | exact And.right (And.right (And.right (by assumption))) | exact And.right (And.right (And.right (And.right (by assumption)))) | exact And.right (And.right (And.right (And.right (And.right (by assumption))))) | exact And.right (And.right (And.right (And.right (And.right (And.right (by assumption)))))) | exact And.right (And.right (And.right (And.right (And.right (And.right (And.right (by assumption))))))) | exact And.right (And.right (And.right (And.right (And.right (And.right (And.right (And.right (by assumption))))))))))
  (k_with "~my_off" => first | assumption | exact List.forall_mem_nil _ | (refine' List.forall_mem_cons.mpr ⟨?_, ?_⟩; (first | k_ne | exact (by assumption : ∀ pz9 ∈ (_ : Led), pz9.1 ≠ _) _ (by k_mem)); walk_at "my_off") | (intro pz9 hpz9; first | exact (by assumption : ∀ pz9 ∈ (_ : Led), pz9.1 ≠ _) pz9 hpz9 | exact (by assumption : ∀ pz9 ∈ (_ : Led), pz9.1 ≠ _) pz9 (by walk_at "my_tail") | (have h9z9 := ltN ((by assumption : ∀ pz9 ∈ (_ : Led), pz9.1 < _) pz9 hpz9); refine neN ?_; omega)))
  (k_with "k_all" => walk_at "my_off")
  (k_with "~my_lt" => first | assumption | exact And.left (by assumption) | exact And.left (And.right (by assumption)) | exact And.left (And.right (And.right (by assumption))) | exact And.left (And.right (And.right (And.right (by assumption)))) | exact And.left (And.right (And.right (And.right (And.right (by assumption))))) | exact And.left (And.right (And.right (And.right (And.right (And.right (by assumption)))))) | exact And.left (And.right (And.right (And.right (And.right (And.right (And.right (by assumption))))))) | exact And.left (And.right (And.right (And.right (And.right (And.right (And.right (And.right (by assumption)))))))) | exact And.left (And.right (And.right (And.right (And.right (And.right (And.right (And.right (And.right (by assumption))))))))) | exact And.left (And.right (And.right (And.right (And.right (And.right (And.right (And.right (And.right (And.right (by assumption)))))))))) | exact And.left (And.right (And.right (And.right (And.right (And.right (And.right (And.right (And.right (And.right (And.right (by assumption))))))))))) | exact And.left (And.right (And.right (And.right (And.right (And.right (And.right (And.right (And.right (And.right (And.right (And.right (by assumption)))))))))))) | exact And.left (And.right (And.right (And.right (And.right (And.right (And.right (And.right (And.right (And.right (And.right (And.right (And.right (by assumption))))))))))))) | exact And.left (And.right (And.right (And.right (And.right (And.right (And.right (And.right (And.right (And.right (And.right (And.right (And.right (And.right (by assumption)))))))))))))) | exact And.left (And.right (And.right (And.right (And.right (And.right (And.right (And.right (And.right (And.right (And.right (And.right (And.right (And.right (And.right (by assumption))))))))))))))) | exact And.left (And.right (And.right (And.right (And.right (And.right (And.right (And.right (And.right (And.right (And.right (And.right (And.right (And.right (And.right (And.right (by assumption)))))))))))))))))
  (k_with "k_ne" => (refine neN ?_; (try dsimp only); first | assumption | exact Ne.symm (by assumption) | (refine Nat.ne_of_lt ?_; walk_at "my_lt") | (refine Nat.ne_of_gt ?_; walk_at "my_lt") | omega))
  (k_with "~my_for" => (k_here; (rename Fr _ _ _ _ => lF'z9); (with_unfolding_all refine' for_any lF'z9 ?_); (try walk_at "my_fold"); walk_say "MY FOR"))
  (k_with "~my_look" => first | with_reducible assumption | rfl | assumption)
  (k_with "~exec For Name Name cons nil" => walk_at "my_for")
  (k_with "~exec For Name Call cons nil" => walk_at "my_for")
  (k_with "~exec For Name List cons nil" => walk_at "my_for")
  (k_with "~exec For Tuple Name cons nil" => walk_at "my_for")
  (k_with "~exec For Tuple Call cons nil" => walk_at "my_for")
  (k_with "~exec For Name BinOp cons nil" => walk_at "my_for")
  (k_with "~TurnA" => (dsimp only [TurnA]))
  (k_with "~eval ListComp" => (k_here; k_dflt (refine' comp_any (by k_asm) (by with_unfolding_all rfl) (by decide) (by rfl) (by decide) (by decide) ?_); (try k_fold); walk_say "MY COMP"))
  (k_with "~exec Assign cons ListComp" => (k_here; k_dflt (refine' comp_assign (by k_asm) (by rfl) (by with_unfolding_all rfl) (by with_unfolding_all rfl) (by decide) (by rfl) (by decide) (by rfl) (by rfl) (by decide) ?_); (try k_fold); walk_say "MY COMP"))
  (k_with "~TestElt" => (dsimp only [TestElt]; (try k_fold)))
  (k_with "~compareOp In str ref" => (k_here; k_dflt (refine' in_tuple_strs (tupK (by k_in) (by k_is)) (by repeat constructor) ?_)))
  (k_with "~compareOp In str ref" => (k_here; k_dflt (refine' in_tuple_strs (News.isTup (by k_asm) (by k_mem)) (by repeat constructor) ?_)))
  (k_with "~my_strs" => first | exact StrsIn.of _ | exact StrsIn.nil | exact StrsIn.one _ _)
  (k_with "~compareOp Eq ref ref" => (k_here; k_dflt (refine' eq_strs (by k_asm) (by k_mem) (by k_mem) (by walk_at "my_strs") (by walk_at "my_strs") (by k_units) ?_)))
  (k_with "~compareOp NotEq ref ref" => (k_here; k_dflt (refine' ne_strs (by k_asm) (by k_mem) (by k_mem) (by walk_at "my_strs") (by walk_at "my_strs") (by k_units) ?_)))
  (k_with "~my_size" => (simp only [List.size_toArray, strValues, List.length_map, Array.length_toList, List.length_append, List.length_dropLast, List.length_cons, List.length_nil, sizeLine_eq]; omega))
  (k_with "~subscriptTail Name Slice ref ref" => (k_here; (with_reducible show wpAny _ _ (subscriptTail _ (PySem.Expr.Slice none _ none _) (Value.ref _) (Value.ref _)) _ _ _); k_dflt (refine' kms_slice_lit (by k_asm) (by k_asm) (by exact News.isList (by k_asm) (by k_mem)) (by kmk_part) (by kmk_part) (by exact pick_dropLast _) ?_ (by with_unfolding_all rfl) (by kmk_pure) (by walk_at "my_size")); intro D'z9 h'z9 F'z9 N'z9 l1z9; (try k_lt l1z9); (try k_sweep)))
  (k_with "~subscriptTail Name UnaryOp ref int" => (k_here; (with_reducible show wpAny _ _ (subscriptTail _ _ (Value.ref _) (Value.int _ _)) _ _ _); k_dflt (refine' item_last (by exact News.isList (by k_asm) (by k_mem)) (by assumption) ?_)))
  (k_with "~binaryOp Add ref ref" => (k_here; k_dflt (refine' kmk_add_lit (by k_asm) (by k_asm) (by exact News.isList (by k_asm) (by k_mem)) (by exact News.isList (by k_asm) (by k_mem)) (by first | exact add_one _ _ _ | exact add_two _ _) ?_ (by walk_at "my_size")); intro D'z9 h'z9 F'z9 N'z9 l1z9; (try k_lt l1z9); (try k_sweep)))
  (k_with "~call ref" => (k_here; (with_reducible show wpAny _ _ (call (Value.ref 52) _) _ _ _); ktf_call (c_small _ _ _ _)))
  (k_with "~my_signs" => (law_clear; simp only [s_a, s_z, s_A, s_Z, s_0, s_9, lt1, str1_eq, e_us, e_co, e_mi, e_do, smallB_iff, startB_iff, charB_iff, ← decide_not, decide_eq_decide, decide_eq_true_eq, decide_eq_false_iff_not, decide_eq_true_eq, eq_comm (a := true), Bool.not_eq_true, Bool.not_eq_false] at *; omega))
  (k_with "~call ref" => (k_here; (with_reducible show wpAny _ _ (call (Value.ref 59) _) _ _ _); ktf_call (c_start _ _ _ _ (by assumption))))
  (k_with "~call ref" => (k_here; (with_reducible show wpAny _ _ (call (Value.ref 66) _) _ _ _); ktf_call (c_char _ _ _ _ (by assumption))))
  (k_with "~call ref" => (k_here; (with_reducible show wpAny _ _ (call (Value.ref 73) _) _ _ _); ktf_call (c_nmtoken _ _ _ _ (by assumption))))
  (k_with "~call ref" => (k_here; (with_reducible show wpAny _ _ (call (Value.ref 80) _) _ _ _); ktf_call (c_name _ _ _ _ (by assumption))))
  (k_with "~call ref" => (k_here; (with_reducible show wpAny _ _ (call (Value.ref 121) _) _ _ _); ktf_call (c_blank _ _ _ _ (by assumption))))
  (k_with "~call ref" => (k_here; (with_reducible show wpAny _ _ (call (Value.ref 128) _) _ _ _); ktf_call (c_norm _ _ _ _ _ _ (by assumption))))
  (k_with "~call ref" => (k_here; (with_reducible show wpAny _ _ (call (Value.ref 135) _) _ _ _); ktf_call (c_words _ _ _ _ _ _ (by assumption))))
  (k_with "~call ref" => (k_here; (with_reducible show wpAny _ _ (call (Value.ref 142) _) _ _ _); ktf_call (c_isword _ _ _ _ _ _ (by assumption))))
  (k_with "~call ref" => (k_here; (with_reducible show wpAny _ _ (call (Value.ref 149) _) _ _ _); ktf_call (c_fits _ _ _ _ _ _ _ _ _ _ _ _ _ _ _ _ _ _ _ _ (by assumption) (by assumption) (by k_mem) (by k_mem) (by k_mem) (by assumption))))
  (k_with "~call ref" => (k_here; (with_reducible show wpAny _ _ (call (Value.ref 566) _) _ _ _); ktf_call (c_lawword _ _ _ _ _ (by assumption) (by assumption))))
  (k_with "~call ref" => (k_here; (with_reducible show wpAny _ _ (call (Value.ref 561) _) _ _ _); ktf_call (c_parted _ _ _ _ (by assumption) (by assumption))))
  (k_with "~call builtin:len" => (k_here; (with_reducible show wpAny _ _ (call (Value.builtin _) [Value.ref _]) _ _ _); k_dflt (refine' len_at (by exact News.isList (by k_asm) (by k_mem)) (by first | omega | ((simp only [List.length_cons, List.length_nil, List.length_append, List.length_map, strValues]); omega)) ?_)))
  (k_with "~my_pick" => first | exact Pick.head | (refine' Pick.tail (by walk_at "my_pick")))
  (k_with "~call ref" => (k_here; (with_reducible show wpAny _ _ (call (Value.ref 542) _) _ _ _); ktr_call (c_take _ _ _ _ _ _ (by assumption) (by first | assumption | decide) (by first | assumption | decide) (by walk_at "my_off")) ()))
  (k_with "~call ref" => (k_here; (with_reducible show wpAny _ _ (call (Value.ref 549) _) _ _ _); ktr_call (c_one _ _ _ _ _ _ _ (by assumption) (by k_mem) (by first | assumption | exact Nat.le_of_ble_eq_true rfl) (by first | assumption | exact Nat.le_of_ble_eq_true rfl) (by walk_at "my_off")) ()))
  (k_with "~call ref" => (k_here; (with_reducible show wpAny _ _ (call (Value.ref 554) _) _ _ _); ktr_call (c_value _ _ _ _ (by assumption) (by walk_at "my_off")) ()))
  (k_with "~call ref" => (k_here; (with_reducible show wpAny _ _ (call (Value.ref 571) _) _ _ _); ktf_call (c_kind _ _ _ _ _ _ (by first | assumption | decide +kernel) (by k_asm))))
  (k_with "~my_tree" => first | assumption | (refine TreeIn.mono ?_ (by assumption); walk_at "my_sub"))
  (k_with "~call ref" => (k_here; (with_reducible show wpAny _ _ (call (Value.ref 367) _) _ _ _); ktf_call (c_row _ _ _ _ _ _ (by walk_at "my_tree") (by assumption) (by assumption))))
  (k_with "~call ref" => (k_here; (with_reducible show wpAny _ _ (call (Value.ref 444) _) _ _ _); ktf_call (c_tkind _ _ _ _ _ _ (by walk_at "my_tree") (by assumption) (by assumption))))
  (k_with "~call ref" => (k_here; (with_reducible show wpAny _ _ (call (Value.ref 451) _) _ _ _); ktf_call (c_tname _ _ _ _ _ _ (by walk_at "my_tree") (by assumption) (by assumption))))
  (k_with "~call ref" => (k_here; (with_reducible show wpAny _ _ (call (Value.ref 472) _) _ _ _); ktf_call (c_tvalue _ _ _ _ _ _ (by walk_at "my_tree") (by assumption) (by assumption))))
  (k_with "~call ref" => (k_here; (with_reducible show wpAny _ _ (call (Value.ref 486) _) _ _ _); ktf_call (c_children _ _ _ _ _ _ (by walk_at "my_tree") (by assumption) (by assumption))))
  (k_with "~call ref" => (k_here; (with_reducible show wpAny _ _ (call (Value.ref 493) _) _ _ _); ktf_call (c_attributes _ _ _ _ _ _ (by walk_at "my_tree") (by assumption) (by assumption))))
  (k_with "~call ref" => (k_here; (with_reducible show wpAny _ _ (call (Value.ref 451) _) _ _ _); ktf_call (c_tnameX _ _ _ _ _ _ _ (by walk_at "my_tree") (by assumption) (by assumption) (by first | assumption | exact rfl))))
  (k_with "k_ne" => (refine neN ?_; (try dsimp only); first | assumption | exact Ne.symm (by assumption) | (refine Nat.ne_of_lt ?_; walk_at "my_lt") | (refine Nat.ne_of_gt ?_; walk_at "my_lt") | omega | exact ne_of_mem (by assumption) (by k_mem) | exact Ne.symm (ne_of_mem (by assumption) (by k_mem))))
  (k_with "~exec While Compare cons nil" => (k_here; (rename Fr _ _ _ _ => lF'z9); (with_unfolding_all refine' while_any lF'z9 ?_); walk_say "MY WHILE"))
  (k_with "~my_ints" => first | exact IntsIn.of _ | exact IntsIn.nil | exact IntsIn.snoc _ _ _)
  (k_with "~compareOp Eq ref ref" => (k_here; k_dflt (refine' eq_ints (by k_asm) (by k_mem) (by k_mem) (by walk_at "my_ints") (by walk_at "my_ints") (by k_units) ?_)))
  (k_with "~compareOp NotEq ref ref" => (k_here; k_dflt (refine' ne_ints (by k_asm) (by k_mem) (by k_mem) (by walk_at "my_ints") (by walk_at "my_ints") (by k_units) ?_)))
  (k_with "~my_size" => (simp only [List.size_toArray, strValues, intVals, refVals, List.length_map, Array.length_toList, List.length_append, List.length_reverse, List.length_dropLast, List.length_cons, List.length_nil, sizeLine_eq]; omega))
  (k_with "~call builtin:list.append" => (k_here; (with_reducible show wpAny _ _ (call (Value.builtin _) [Value.ref _, _]) _ _ _); k_dflt (refine' append_my (by k_asm) (by k_asm) (by k_upd) (by walk_at "my_size") ?_); intro h'z9 F'z9 N'z9; (try k_sweep)))
  (k_with "~call builtin:list.pop" => (k_here; (with_reducible show wpAny _ _ (call (Value.builtin _) [Value.ref _]) _ _ _); k_dflt (refine' pop_my (by k_asm) (by k_asm) (by k_upd) (by walk_at "my_size") ?_); intro h'z9 F'z9 N'z9; (try k_sweep)))
  (k_with "~call builtin:list.extend" => (k_here; (with_reducible show wpAny _ _ (call (Value.builtin _) [Value.ref _, Value.ref _]) _ _ _); k_dflt (refine' extend_my (by k_asm) (by k_asm) (by k_mem) (by (intro k8z9; k_upd)) (by walk_at "my_size") ?_); intro k9z9 h'z9 F'z9 N'z9; (try dsimp only at N'z9); (try k_sweep)))
  (k_with "~subscriptTail Name Slice ref ref" => (k_here; (with_reducible show wpAny _ _ (subscriptTail _ (PySem.Expr.Slice none none (some _) _) (Value.ref _) (Value.ref _)) _ _ _); k_dflt (refine' rev_my (by k_asm) (by k_asm) (by exact News.isList (by k_asm) (by k_mem)) (by exact IsPart.int _ _) (by with_unfolding_all rfl) (by kmk_pure) (by walk_at "my_size") ?_); intro D'z9 h'z9 F'z9 N'z9 l1z9; (try k_lt l1z9); (try k_sweep)))
  (k_with "~my_dtd" => first | assumption | (refine DtdIn.mono ?_ (by assumption); walk_at "my_sub"))
  (k_with "~call ref" => (k_here; (with_reducible show wpAny _ _ (call (Value.ref 289) _) _ _ _); ktf_call (c_idname _ _ _ _ (by walk_at "my_dtd"))))
  (k_with "~call ref" => (k_here; (with_reducible show wpAny _ _ (call (Value.ref 277) _) _ _ _); ktf_call (c_rule _ _ _ _ _ _ _ (by walk_at "my_dtd") (by assumption))))
  (k_with "~call ref" => (k_here; (with_reducible show wpAny _ _ (call (Value.ref 156) _) _ _ _); ktf_call (c_walk _ _ _ _ _ _ (by walk_at "my_tree") (by assumption) (by assumption) (by assumption) (by assumption))))
  (k_with "~call ref" => (k_here; (with_reducible show wpAny _ _ (call (Value.ref 170) _) _ _ _); ktf_call (c_idtable _ _ _ _ _ _ (by walk_at "my_tree") (by walk_at "my_dtd") (by assumption) (by assumption))))
  (k_with "~my_tail" => first | assumption | (refine' List.mem_cons_of_mem _ ?_; walk_at "my_tail") | (refine' List.mem_append_left _ ?_; walk_at "my_tail") | (refine' List.mem_append_right _ ?_; walk_at "my_tail"))
  (k_with "k_mem" => first | exact List.mem_cons_self | ktr_member | (refine' List.mem_cons_of_mem _ ?_; k_mem) | (refine' List.mem_append_right _ ?_; k_mem) | (refine' List.mem_append_left _ ?_; k_mem))
  (k_with "~my_sub" => first | exact fun _ hpz9 => hpz9 | exact List.forall_mem_nil _ | (refine' List.forall_mem_cons.mpr ⟨?_, ?_⟩; k_mem; walk_at "my_sub") | (intro pz9 hpz9; walk_at "my_tail") | (refine' List.forall_mem_append.mpr ⟨?_, ?_⟩; walk_at "my_sub"; walk_at "my_sub"))
  (k_with "~call ref" => (k_here; (with_reducible show wpAny _ _ (call (Value.ref 184) _) _ _ _); ktf_call (c_broken _ _ _ _ _ _ (by walk_at "my_tree") (by walk_at "my_dtd") (by assumption) (by assumption))))
  (k_with "~call ref" => (k_here; (with_reducible show wpAny _ _ (call (Value.ref 177) _) _ _ _); ktf_call (c_refs _ _ _ _ _ _ _ _ (by walk_at "my_tree") (by walk_at "my_dtd") (by assumption) (by assumption) (by assumption) (by assumption) (by assumption))))
  (k_with "k_room" => ktr_room)
  (k_with "~my_dummy" => skip)
  trivial
set_option maxHeartbeats 8000000 in
theorem c_referring (w : World) (T : TreeS) (D : DtdS) (es : List El) (x : Str) (tk u : Tok) (news : Led) (hT : TreeIn news T) (hD : DtdIn w news D) (hz : TOk T) (hes : ElsOk T es) :
    Con w 10 189 [.ref T.t, .int (((0 : Nat) : Nat) : Int) tk, .ref D.o, .str x u] news (fun news' r => ∃ a n l, l.map (·.1) = referP es x ∧ (∀ p ∈ news, p.1 ≠ a) ∧ r = .ref a ∧ news' = (a, listOf (intVals l).toArray n) :: news) := by
  have hes' := hes
  obtain ⟨he, ⟨nd0, hn0, hwk⟩, hel⟩ := hes'
  have hol : (es.map (·.id)).length ≤ 100 := by rw [List.length_map]; omega
  unfold Con; k_fill; intro loose mean mg mb dp un gd cn cs a ccd cl outer A₀ base h₀ L m s Q E B F X N Tp hk hdp hun hret; walk_at "my_enterC"
  rename Obj => oc
  rename ∀ p ∈ news, _ < _ => hl0
  obtain ⟨L9, hL, e9⟩ : ∃ z, (∀ p ∈ news, p.1 < z) ∧ z = _ := ⟨_, hl0, rfl⟩
  subst e9
  clear hl0
  k_steps
  (try walk_at "my_fold")
  rename List (Nat × Tok) => lx
  rename List.map _ _ = List.map _ es => hlx
  rename News _ _ _ _ => N1
  have N2 := cb_drop (news := (_, listOf #[] 0) :: (_, listOf (intVals lx).toArray _) :: (_, oc) :: news) N1 (by walk_at "my_sub")
  obtain ⟨fa, e9⟩ := head_name N2
  subst e9
  obtain ⟨xa, ka, e9, e8⟩ := list_name2 N2
  subst e9 e8
  have hxf : @Ne Nat xa fa := by k_ne
  have hcf : @Ne Nat (L9 + 1) fa := by k_ne
  have hfa : ∀ p ∈ news, p.1 ≠ fa := by walk_at "my_fresh"
  refine iter_list (fun m₀ n₀ i K => ∀ m₁ kf lf, m₁ (Str.ofString "tree") = some (.ref T.t) → m₁ (Str.ofString "dtd") = some (.ref D.o) → m₁ (Str.ofString "found") = some (.ref fa) → lf.map (·.1) = referP (es.take i) x → K m₁ ((fa, listOf (intVals lf).toArray kf) :: (xa, listOf (intVals lx).toArray ka) :: (L9 + 1, oc) :: news))
    rfl (by k_asm) N2 (.inr ⟨_, by k_mem, rfl, _, rfl⟩) (fun K k => k _ 0 [] (by rfl) (by rfl) (by rfl) rfl) ?_ ?_
  · intro I i v hv
    intro m₁ kf lf hm1 hm2 hm3 hR oI h tk S off F₁ N₁
    (try walk_at "my_fold")
    obtain ⟨p, hp, rfl⟩ := intAtL (by simpa using hv)
    have hpe := map_at hlx hp
    rw [List.getElem?_map] at hpe
    obtain ⟨e, hee, hei⟩ := Option.map_eq_some_iff.mp hpe
    obtain ⟨nd, hnd, hnm, hat, hno⟩ := he e (List.mem_of_getElem? hee)
    rw [hei] at hnd
    have hIf : @Ne Nat I fa := fun e => off _ List.mem_cons_self e.symm
    have off' : ∀ p ∈ news, p.1 ≠ I := fun p hp => off p (List.mem_cons_of_mem _ (List.mem_cons_of_mem _ (List.mem_cons_of_mem _ hp)))
    have hlf : lf.length ≤ 100 := by
      have h1 := congrArg List.length hR
      have h2 : ((es.take i).filter (refB x)).length ≤ (es.take i).length := List.length_filter_le _ _
      rw [List.length_map, referP, List.length_map] at h1
      rw [List.length_take] at h2; omega
    k_steps
    (try walk_at "my_fold")
    rename DatAll _ _ _ ∧ _ => hf9
    have hf1 := hf9.1
    have hf2 := hf9.2.1
    have hf4 := hf9.2.2.2
    clear hf9
    rename List (Addr × Obj) => tlr
    rename List Value => rvs
    rename News _ _ _ _ => N3
    refine Exists.elim (pd_vals hf1) fun vals hvals => ?_
    have hrf : ∀ p ∈ tlr ++ news, p.1 ≠ fa := List.forall_mem_append.mpr ⟨fun p hp e => hf2 p hp _ (List.mem_cons_of_mem _ List.mem_cons_self) e.symm, hfa⟩
    have hpl := pairsP_len (l := e.ats) fun q hq => by
      obtain ⟨an, h1, h2, h3⟩ := hat.2 q hq
      have := (hz.2 an (List.mem_of_getElem? h1)).2.2.2
      rw [← h3]; omega
    have hatl : e.ats.length ≤ 100 := by have := congrArg List.length hat.1; simp only [List.length_map] at this; have := (hz.2 nd (List.mem_of_getElem? hnd)).2.1; omega
    have hrl : rvs.length = (pairsP e.ats).length := by have := hf1.length; simpa [pd] using this
    refine comp_tups (xs := [(Str.ofString "attribute", _), (Str.ofString "told", _)]) (vals := vals) (tl := tlr) (fun n₀ j K => ∀ l, decide (l.map (·.1) = []) = !(((pairsP e.ats).take j).any fun p => p.2 == x) → K (intVals l) n₀) rfl (by k_asm) (cb_drop (news := (_, listOf rvs.toArray _) :: (I, oI) :: (_, listOf (intVals lf).toArray kf) :: (_, listOf (intVals lx).toArray ka) :: (_, oc) :: (tlr ++ news)) N3 (by walk_at "my_sub"))
      (.inr ⟨_, List.mem_cons_self, rfl, _, rfl⟩) (by walk_at "my_sub") (fun i v hv => by obtain ⟨q, t, u, h1, h2, tp, n, h3, h4⟩ := hvals i v (by simpa using hv); exact ⟨tp, n, h3, h4⟩) (fun i v hv => by obtain ⟨q, t, u, h1, h2, _⟩ := hvals i v (by simpa using hv); rw [h2]; rfl)
      (by rw [List.size_toArray, sizeLine_eq]; omega) (List.forall_mem_cons.mpr ⟨rfl, List.forall_mem_cons.mpr ⟨rfl, List.forall_mem_nil _⟩⟩) rfl (fun K k => by exact k [] rfl) ?_ ?_
    · intro j v g hv9
      obtain ⟨q, t8, u8, hq9, hve, -⟩ := hvals j v (by simpa using hv9)
      intro I3 l hl2 oI3 C oC D3 h3 tk3 m₂ E' S9' hoC hB F₃ N₃ o3 ne
      have S9 := S9'.1
      have htl9 := S9'.2
      obtain ⟨m', hB⟩ := hB
      rw [hve] at hB
      have hB2 : m₂ (Str.ofString "told") = some (.str q.2 u8) := by rw [hB]; exact rfl
      clear hB
      have hst : (((pairsP e.ats).take (j + 1)).any fun p => p.2 == x) = ((((pairsP e.ats).take j).any fun p => p.2 == x) || q.2 == x) := by rw [take_one hq9, List.any_append]; simp
      dsimp only [TestElt]
      k_steps
      · rename (_ == x) = true => hq7
        exact LCg.CompEnd.intro (by k_asm) (by k_asm) _ (by walk_at "my_sub") o3 ⟨S9, htl9⟩ (fun K k => by rw [show intVals l ++ [.int 1 _] = intVals (l ++ [(1, _)]) from (intVals_snoc l (1, _)).symm]; exact k _ (by rw [hst, hq7]; simp))
      · rename (_ == x) = false => hq7
        exact LCg.CompEnd.intro (by k_asm) (by k_asm) _ (by walk_at "my_sub") o3 ⟨S9, htl9⟩ (fun K k => k l (by rw [hst, hq7, hl2]; simp))
    · intro g l hl2 D3 h3 tk3 F₃ N₃ o3
      have hD3f : @Ne Nat fa D3 := o3.2.2.1
      have hraf := hf4 _ (List.mem_cons_of_mem _ List.mem_cons_self)
      have hrf2 : rvs.toArray.size = (pairsP e.ats).length := by rw [List.size_toArray]; exact hrl
      rw [hrf2, List.take_length] at hl2
      have hst : referP (es.take (i + 1)) x = referP (es.take i) x ++ if refB x e = true then [e.id] else [] := by rw [take_one hee, referP_snoc]
      change decide _ = !(refB x e) at hl2
      have hraf2 : @Ne Nat fa _ := hraf
      k_steps
      · rename decide (List.map _ l = []) = true => hq7
        have hrb : refB x e = false := by rw [hq7] at hl2; simpa using hl2.symm
        exact TE.intro (by k_asm) (by k_asm) (by walk_at "my_sub") off S (fun K k => k _ kf lf (by exact hm1) (by exact hm2) (by exact hm3) (by rw [hst, hrb, hR]; simp))
      · rename decide (List.map _ l = []) = false => hq7
        have hrb : refB x e = true := by rw [hq7] at hl2; simpa using hl2.symm
        exact TE.intro (news' := (fa, listOf (intVals (lf ++ [p])).toArray _) :: (xa, listOf (intVals lx).toArray ka) :: (L9 + 1, oc) :: news) (by k_asm) (by k_asm) (by rw [intVals_snoc]; walk_at "my_sub") (List.forall_mem_cons.mpr ⟨by exact off (fa, listOf (intVals lf).toArray kf) List.mem_cons_self, List.forall_mem_cons.mpr ⟨off _ (List.mem_cons_of_mem _ List.mem_cons_self), List.forall_mem_cons.mpr ⟨off _ (List.mem_cons_of_mem _ (List.mem_cons_of_mem _ List.mem_cons_self)), off'⟩⟩⟩) (.inr ⟨_, by k_mem, rfl, _, rfl⟩)
          (fun K k => k _ _ (lf ++ [p]) (by exact hm1) (by exact hm2) (by exact hm3) (by rw [hst, hrb, List.map_append, hR, if_pos rfl, hei]; rfl))
  · intro m₁ kf lf hm1 hm2 hm3 hR h tk F₁ N₁
    k_steps
    (try walk_at "my_fold")
    have hle : (intVals lx).toArray.size = es.length := by rw [List.size_toArray, intVals_len]; have := congrArg List.length hlx; simpa using this
    rw [hle, List.take_length] at hR
    exact hret _ _ _ _ (by k_asm) (cb_drop (by k_asm) (by walk_at "my_sub")) ⟨_, kf, lf, hR, hfa, rfl, rfl⟩
end

-- THE TREE IS BUILT: add_element, set_attribute
def TSep (T : TreeS) : Prop := (∀ nd ∈ T.nodes, @Ne Nat T.rl nd.ck ∧ @Ne Nat T.rl nd.ak ∧ @Ne Nat nd.ck nd.ak) ∧ ∀ (i j : Nat) (nd nd' : Nd), T.nodes[i]? = some nd → T.nodes[j]? = some nd' → i ≠ j → @Ne Nat nd.ck nd'.ck ∧ @Ne Nat nd.ck nd'.ak ∧ @Ne Nat nd.ak nd'.ak
def Apart (rest tl : Led) : Prop := ∀ p ∈ rest, ∀ q ∈ tl, q.1 ≠ p.1
theorem News.uniq {h₀ h : Heap} {L a : Addr} {l : Led} {o o' : Obj} (N : News h₀ L h l) (h1 : (a, o) ∈ l) (h2 : (a, o') ∈ l) : o = o' := by
  have e1 := (N _ h1).1
  have e2 := (N _ h2).1
  rw [e1] at e2; exact Option.some.inj e2
def cut2 (a b : Addr) (l : Led) : Led := l.filter fun p => !(p.1 == a) && !(p.1 == b)
theorem cut2_mem {a b : Addr} {l : Led} {p : Addr × Obj} : p ∈ cut2 a b l ↔ p ∈ l ∧ p.1 ≠ a ∧ p.1 ≠ b := by
  unfold cut2; rw [List.mem_filter]; simp
theorem cut2_sub {h₀ h : Heap} {L a b : Addr} {l : Led} {oa ob : Obj} (N : News h₀ L h l) (ha : (a, oa) ∈ l) (hb : (b, ob) ∈ l) : ∀ p ∈ l, p ∈ (a, oa) :: (b, ob) :: cut2 a b l := by
  intro p hp
  obtain ⟨x, o⟩ := p
  by_cases h1 : x = a
  · subst h1; rw [News.uniq N hp ha]; exact List.mem_cons_self
  · by_cases h2 : x = b
    · subst h2; rw [News.uniq N hp hb]; exact List.mem_cons_of_mem _ List.mem_cons_self
    · exact List.mem_cons_of_mem _ (List.mem_cons_of_mem _ (cut2_mem.mpr ⟨hp, h1, h2⟩))
theorem cut2_back {a b : Addr} {l : Led} {oa ob : Obj} (ha : (a, oa) ∈ l) (hb : (b, ob) ∈ l) : ∀ p ∈ (a, oa) :: (b, ob) :: cut2 a b l, p ∈ l :=
  List.forall_mem_cons.mpr ⟨ha, List.forall_mem_cons.mpr ⟨hb, fun _ hp => (cut2_mem.mp hp).1⟩⟩
theorem inst_list {C d : Addr} {its : Array Value} {n : Nat} (e : instObj C d = listOf its n) : False := by
  have := congrArg Obj.cls e; cases this
theorem dict_list {es : List DictEntry} {k : Nat} {its : Array Value} {n : Nat} (e : dictOf es k = listOf its n) : False := by
  have := congrArg Obj.data e; cases this
def grown (T : TreeS) (k : Nat) (nd1 new : Nd) (rn : Nat) : TreeS := { T with nodes := T.nodes.set k nd1 ++ [new], rn := rn }
def Nd.kid (nd : Nd) (p : Nat × Tok) (n : Nat) : Nd := { nd with kids := nd.kids ++ [p], z := { nd.z with cn := n } }
def Nd.att (nd : Nd) (p : Nat × Tok) (n : Nat) : Nd := { nd with attrs := nd.attrs ++ [p], z := { nd.z with an := n } }
theorem grown_at {T : TreeS} {k i : Nat} {nd nd1 new x : Nd} {rn : Nat} (hn : T.nodes[k]? = some nd) (h : (grown T k nd1 new rn).nodes[i]? = some x) : (i = k ∧ x = nd1) ∨ (i ≠ k ∧ T.nodes[i]? = some x) ∨ (i = T.nodes.length ∧ x = new) := by
  unfold grown at h
  have hk := at_lt hn
  rcases Nat.lt_trichotomy i T.nodes.length with hi | hi | hi
  · rw [List.getElem?_append_left (by simpa using hi)] at h
    by_cases e : i = k
    · subst e; rw [List.getElem?_set_self hi] at h; exact .inl ⟨rfl, (Option.some.inj h).symm⟩
    · rw [List.getElem?_set_ne (Ne.symm e)] at h; exact .inr (.inl ⟨e, h⟩)
  · subst hi
    rw [List.getElem?_append_right (by simp)] at h
    simp at h
    exact .inr (.inr ⟨rfl, h.symm⟩)
  · rw [List.getElem?_eq_none (by simp; omega)] at h; cases h
theorem TSep.grow {T : TreeS} {k rn : Nat} {nd nd1 new : Nd} (hs : TSep T) (hn : T.nodes[k]? = some nd) (hck : nd1.ck = nd.ck) (hak : nd1.ak = nd.ak) (hr : @Ne Nat T.rl new.ck ∧ @Ne Nat T.rl new.ak ∧ @Ne Nat new.ck new.ak)
    (hf : ∀ x ∈ T.nodes, (@Ne Nat x.ck new.ck ∧ @Ne Nat x.ck new.ak) ∧ @Ne Nat x.ak new.ck ∧ @Ne Nat x.ak new.ak) : TSep (grown T k nd1 new rn) := by
  have all : ∀ i x, (grown T k nd1 new rn).nodes[i]? = some x → (∃ y, T.nodes[i]? = some y ∧ x.ck = y.ck ∧ x.ak = y.ak) ∨ (i = T.nodes.length ∧ x = new) := by
    intro i x h
    rcases grown_at hn h with ⟨rfl, rfl⟩ | ⟨_, h⟩ | h
    · exact .inl ⟨nd, hn, hck, hak⟩
    · exact .inl ⟨x, h, rfl, rfl⟩
    · exact .inr h
  refine ⟨fun x hx => ?_, fun i j x y hi hj hij => ?_⟩
  · obtain ⟨i, hi, rfl⟩ := List.getElem_of_mem hx
    rcases all i _ (List.getElem?_eq_getElem hi) with ⟨y, h1, h2, h3⟩ | ⟨_, h⟩
    · rw [h2, h3]; exact hs.1 y (List.mem_of_getElem? h1)
    · rw [h]; exact hr
  · rcases all i x hi with ⟨x', h1, h2, h3⟩ | ⟨h1, rfl⟩
    · rcases all j y hj with ⟨y', g1, g2, g3⟩ | ⟨g1, rfl⟩
      · rw [h2, h3, g2, g3]; exact hs.2 i j x' y' h1 g1 hij
      · have := hf x' (List.mem_of_getElem? h1); rw [h2, h3]; exact ⟨this.1.1, this.1.2, this.2.2⟩
    · rcases all j y hj with ⟨y', g1, g2, g3⟩ | ⟨g1, rfl⟩
      · have := hf y' (List.mem_of_getElem? g1); rw [g2, g3]; exact ⟨Ne.symm this.1.1, Ne.symm this.2.1, Ne.symm this.2.2⟩
      · exact absurd (h1.trans g1.symm) hij
theorem set_refVals {T : TreeS} {k rn : Nat} {nd nd1 new : Nd} (hn : T.nodes[k]? = some nd) (h : nd1.r = nd.r) : refVals (grown T k nd1 new rn).nodes = refVals T.nodes ++ [Value.ref new.r] := by
  unfold grown refVals
  rw [List.map_append, List.map_set]
  congr 1
  have hk := at_lt hn
  have e : Value.ref nd1.r = (T.nodes.map fun nd => Value.ref nd.r)[k]'(by simpa using hk) := by
    rw [List.getElem_map, h]; congr 2; have := (List.getElem?_eq_some_iff.mp hn).2; rw [this]
  rw [e]; exact List.set_getElem_self _
/-- the tree behind a node that was made beneath another, or an attribute that was set -/
theorem TreeIn.grow {h₀ h : Heap} {L : Addr} {tl nw : Led} {T : TreeS} {k : Nat} {nd nd1 new : Nd} {p : Nat × Tok} {la : Addr} {n1 n2 m1 : Nat} {vs0 vs : List Value} (N : News h₀ L h tl) (hT : TreeIn tl T) (hs : TSep T) (hn : T.nodes[k]? = some nd)
    (hla0 : (la, listOf vs0.toArray m1) ∈ tl) (hla : (la = nd.ck ∧ nd1 = nd.kid p n2 ∧ vs = intVals nd1.kids) ∨ (la = nd.ak ∧ nd1 = nd.att p n2 ∧ vs = intVals nd1.attrs))
    (hnw : NodeIn nw new) : TreeIn (nw ++ ((T.rl, listOf (refVals T.nodes ++ [Value.ref new.r]).toArray n1) :: (la, listOf vs.toArray n2) :: cut2 T.rl la tl)) (grown T k nd1 new n1) := by
  have hmem := List.mem_of_getElem? hn
  have inB : ∀ p, p ∈ cut2 T.rl la tl → p ∈ nw ++ ((T.rl, listOf (refVals T.nodes ++ [Value.ref new.r]).toArray n1) :: (la, listOf vs.toArray n2) :: cut2 T.rl la tl) := fun p hp => List.mem_append_right _ (List.mem_cons_of_mem _ (List.mem_cons_of_mem _ hp))
  have keepI : ∀ (x : Addr) (C d : Addr), (x, instObj C d) ∈ tl → (x, instObj C d) ∈ cut2 T.rl la tl := fun x C d hx => cut2_mem.mpr ⟨hx, (by rintro rfl; exact inst_list (News.uniq N hx hT.r)), (by rintro rfl; exact inst_list (News.uniq N hx hla0))⟩
  have keepD : ∀ (x : Addr) es n, (x, dictOf es n) ∈ tl → (x, dictOf es n) ∈ cut2 T.rl la tl := fun x es n hx => cut2_mem.mpr ⟨hx, (by rintro rfl; exact dict_list (News.uniq N hx hT.r)), (by rintro rfl; exact dict_list (News.uniq N hx hla0))⟩
  have hsn := hs.1 nd hmem
  have h0 := hT.nodes nd hmem
  have hr : nd1.r = nd.r := by rcases hla with ⟨_, rfl, _⟩ | ⟨_, rfl, _⟩ <;> rfl
  refine ⟨inB _ (keepI _ _ _ hT.i), inB _ (keepD _ _ _ hT.d), ?_, fun x hx => ?_⟩
  · show (T.rl, listOf (refVals (grown T k nd1 new n1).nodes).toArray n1) ∈ _
    rw [set_refVals hn hr]; exact List.mem_append_right _ List.mem_cons_self
  · obtain ⟨i, hi, rfl⟩ := List.getElem_of_mem hx
    rcases grown_at hn (List.getElem?_eq_getElem hi) with ⟨_, e⟩ | ⟨hik, e⟩ | ⟨_, e⟩
    · rw [e]
      rcases hla with ⟨rfl, rfl, rfl⟩ | ⟨rfl, rfl, rfl⟩
      · exact ⟨inB _ (keepI _ _ _ h0.i), inB _ (keepD _ _ _ h0.d), List.mem_append_right _ (List.mem_cons_of_mem _ List.mem_cons_self), inB _ (cut2_mem.mpr ⟨h0.a, Ne.symm hsn.2.1, Ne.symm hsn.2.2⟩)⟩
      · exact ⟨inB _ (keepI _ _ _ h0.i), inB _ (keepD _ _ _ h0.d), inB _ (cut2_mem.mpr ⟨h0.k, Ne.symm hsn.1, hsn.2.2⟩), List.mem_append_right _ (List.mem_cons_of_mem _ List.mem_cons_self)⟩
    · have hx2 := hT.nodes _ (List.mem_of_getElem? e)
      have h1 := hs.1 _ (List.mem_of_getElem? e)
      have h2 := hs.2 _ _ _ _ e hn hik
      have h3 := hs.2 _ _ _ _ hn e (Ne.symm hik)
      refine ⟨inB _ (keepI _ _ _ hx2.i), inB _ (keepD _ _ _ hx2.d), inB _ (cut2_mem.mpr ⟨hx2.k, Ne.symm h1.1, ?_⟩), inB _ (cut2_mem.mpr ⟨hx2.a, Ne.symm h1.2.1, ?_⟩)⟩
      · rcases hla with ⟨rfl, _⟩ | ⟨rfl, _⟩
        · exact h2.1
        · exact h2.2.1
      · rcases hla with ⟨rfl, _⟩ | ⟨rfl, _⟩
        · exact Ne.symm h3.2.1
        · exact h2.2.2
    · rw [e]; exact hnw.mono fun p hp => List.mem_append_left _ hp
structure PN where
  kind : Str
  name : Str
  val : Str
  kids : List Nat
  attrs : List Nat
def vw (nd : Nd) : PN := ⟨nd.kind, nd.name, nd.val, nd.kids.map (·.1), nd.attrs.map (·.1)⟩
def views (T : TreeS) : List PN := T.nodes.map vw
theorem views_len (T : TreeS) : (views T).length = T.nodes.length := by simp [views]
theorem views_at {T : TreeS} {k : Nat} {pn : PN} (h : (views T)[k]? = some pn) : ∃ nd, T.nodes[k]? = some nd ∧ vw nd = pn := by
  unfold views at h; rw [List.getElem?_map] at h; exact Option.map_eq_some_iff.mp h
theorem views_grown (T : TreeS) (k rn : Nat) (nd1 new : Nd) : views (grown T k nd1 new rn) = (views T).set k (vw nd1) ++ [vw new] := by simp [views, grown, List.map_set]

-- new_row: a node of its own, its entries told as one ledger
def Fr2 (nw R : Led) : Prop := ∀ p ∈ nw, ∀ q ∈ R, q.1 ≠ p.1
theorem new_end {h₀ h' : Heap} {L rl : Addr} {R : Led} {orl orl0 : Obj} {m1 m2 m3 n9 : Nat} {x dx ck ak nk : Addr} {kd nm vl : Str} {h1 h2 h3 h4 h5 h6 h7 h8 h9 : Int} {t1 t2 t3 t4 t5 t6 t7 t8 t9 u1 u2 u3 u4 u5 : Tok} {pv : Value}
    (NE : News h₀ L h' ((nk, listOf #[] m3) :: (ak, listOf #[] m2) :: (ck, listOf #[] m1) :: (x, instObj 335 dx) :: (dx, dictOf [⟨h1, .str (Str.ofString "kind") t1, .str kd u1⟩, ⟨h2, .str (Str.ofString "name") t2, .str nm u2⟩, ⟨h3, .str (Str.ofString "uri") t3, .str (Str.ofString "") u3⟩, ⟨h4, .str (Str.ofString "local") t4, .str nm u4⟩, ⟨h5, .str (Str.ofString "value") t5, .str vl u5⟩, ⟨h6, .str (Str.ofString "parent") t6, pv⟩, ⟨h7, .str (Str.ofString "children") t7, .ref ck⟩, ⟨h8, .str (Str.ofString "attributes") t8, .ref ak⟩, ⟨h9, .str (Str.ofString "namespaces") t9, .ref nk⟩] n9) :: (rl, orl) :: R))
    (hd : ∀ p ∈ (rl, orl0) :: R, p.1 < dx) (l1 : @LT.lt Nat _ dx x) (l2 : @LT.lt Nat _ x ck) (l3 : @LT.lt Nat _ ck ak) (l4 : @LT.lt Nat _ ak nk) :
    ∃ nw nd, (NodeIn nw nd ∧ vw nd = ⟨kd, nm, vl, [], []⟩ ∧ Fr2 nw ((rl, orl0) :: R) ∧ @Ne Nat nd.ck nd.ak) ∧ nd.r = x ∧ News h₀ L h' ((rl, orl) :: (R ++ nw)) := by
  refine ⟨[(nk, listOf #[] m3), (ak, listOf #[] m2), (ck, listOf #[] m1), (x, instObj 335 dx), (dx, dictOf [⟨h1, .str (Str.ofString "kind") t1, .str kd u1⟩, ⟨h2, .str (Str.ofString "name") t2, .str nm u2⟩, ⟨h3, .str (Str.ofString "uri") t3, .str (Str.ofString "") u3⟩, ⟨h4, .str (Str.ofString "local") t4, .str nm u4⟩, ⟨h5, .str (Str.ofString "value") t5, .str vl u5⟩, ⟨h6, .str (Str.ofString "parent") t6, pv⟩, ⟨h7, .str (Str.ofString "children") t7, .ref ck⟩, ⟨h8, .str (Str.ofString "attributes") t8, .ref ak⟩, ⟨h9, .str (Str.ofString "namespaces") t9, .ref nk⟩] n9)], ⟨x, dx, ck, ak, kd, nm, vl, [], [], ⟨h1, h2, h3, h4, h5, h6, h7, h8, h9, t1, t2, t3, t4, t5, t6, t7, t8, t9, u1, u2, u3, u4, u5, pv, .ref nk, n9, m1, m2⟩⟩, ⟨⟨by simp, by simp, ?_, ?_⟩, rfl, ?_, Nat.ne_of_lt l3⟩, rfl, cb_drop NE ?_⟩
  · exact List.mem_cons_of_mem _ (List.mem_cons_of_mem _ List.mem_cons_self)
  · exact List.mem_cons_of_mem _ List.mem_cons_self
  · intro p hp q hq
    have hq1 : @LT.lt Nat _ q.1 dx := hd q hq
    simp only [List.mem_cons, List.not_mem_nil, or_false] at hp
    rcases hp with rfl | rfl | rfl | rfl | rfl <;> (refine neN ?_; dsimp only; omega)
  · intro p hp
    simp only [List.mem_cons, List.mem_append, List.not_mem_nil, or_false] at hp ⊢
    rcases hp with h | h | h | h | h | h | h <;> simp [h]
section
theorem w29 : True := by
  k_with_none
  (k_with "~my_fold" => ((fail_if_success (fail_if_success k_fold)); (refine (let qk := _; (?_ : wpAny _ _ _ qk _ _)))))
  (k_with "~my_state" => ((fail_if_success (fail_if_success (conv => arg 6; pattern PySem.Shared.mk _ _ _ _ _))); (refine (let sk := _; (?_ : wpAny _ _ _ _ _ sk)))))
  (k_with "~my_around" => ((try refine (let vk := _; (?_ : wpAny _ _ (execs _ vk) _ _ _))); (refine (let ak := _; (?_ : wpAny _ ak _ _ _ _)))))
  (k_with "~my_enter" => (refine wpAny_call ?_; k_dflt ktr_enter; (try walk_at "my_around")))
  (k_with "~use2" => (
  (first | (refine post00 ?_; intro h9z9 tk9z9 F9z9 N9z9) | (refine post10 ?_; intro x1z9 h9z9 tk9z9 F9z9 N9z9) | (refine post20 ?_; intro x1z9 x2z9 h9z9 tk9z9 F9z9 N9z9) | (refine post21 ?_; intro x1z9 x2z9 q1z9 h9z9 tk9z9 F9z9 N9z9) | (refine post22 ?_; intro x1z9 x2z9 q1z9 q2z9 h9z9 tk9z9 F9z9 N9z9) | (refine post31 ?_; intro x1z9 x2z9 x3z9 q1z9 h9z9 tk9z9 F9z9 N9z9) | (refine post32 ?_; intro x1z9 x2z9 x3z9 q1z9 q2z9 h9z9 tk9z9 F9z9 N9z9) | (refine post33 ?_; intro x1z9 x2z9 x3z9 q1z9 q2z9 q3z9 h9z9 tk9z9 F9z9 N9z9) | (refine post41 ?_; intro x1z9 x2z9 x3z9 x4z9 q1z9 h9z9 tk9z9 F9z9 N9z9))
  (try walk_at "my_fold")
  (try dsimp only)
  (try k_sweep)
  (try walk_at "my_fold")))
  (k_with "~my_tail" => first | assumption | (refine' List.mem_cons_of_mem _ ?_; walk_at "my_tail"))
  (k_with "~my_sub" => first | exact fun _ hpz9 => hpz9 | exact List.forall_mem_nil _ | (refine' List.forall_mem_cons.mpr ⟨?_, ?_⟩; k_mem; walk_at "my_sub") | (intro pz9 hpz9; walk_at "my_tail"))
  (k_with "k_units" => ktr_units)
  (k_with "k_mem" => first | exact List.mem_cons_self | ktr_member | (refine' List.mem_cons_of_mem _ ?_; k_mem))
  (k_with "~my_and" => first | assumption | (refine And.right ?_; walk_at "my_and"))
  (k_with "~my_fresh" => first | assumption | exact ne_of_lts (by assumption) | exact ne_of_allLt (by first | assumption | exact And.right (by assumption) | exact And.right (And.right (by assumption)) | exact And.right (And.right (And.right (by assumption))) | exact And.right (And.right (And.right (And.right (by assumption)))) | exact And.right (And.right (And.right (And.right (And.right (by assumption))))) | exact And.right (And.right (And.right (And.right (And.right (And.right (by assumption)))))) | exact And.right (And.right (And.right (And.right (And.right (And.right (And.right (by assumption))))))) | exact And.right (And.right (And.right (And.right (And.right (And.right (And.right (And.right (by assumption))))))))))
  (k_with "~my_off" => first | assumption | exact List.forall_mem_nil _ | (refine' List.forall_mem_cons.mpr ⟨?_, ?_⟩; (first | k_ne | exact (by assumption : ∀ pz9 ∈ (_ : Led), pz9.1 ≠ _) _ (by k_mem)); walk_at "my_off") | (intro pz9 hpz9; first | exact (by assumption : ∀ pz9 ∈ (_ : Led), pz9.1 ≠ _) pz9 hpz9 | exact (by assumption : ∀ pz9 ∈ (_ : Led), pz9.1 ≠ _) pz9 (by walk_at "my_tail") | (have h9z9 := ltN ((by assumption : ∀ pz9 ∈ (_ : Led), pz9.1 < _) pz9 hpz9); refine neN ?_; omega)))
  (k_with "k_all" => walk_at "my_off")
  (k_with "~my_lt" => first | assumption | exact And.left (by assumption) | exact And.left (And.right (by assumption)) | exact And.left (And.right (And.right (by assumption))) | exact And.left (And.right (And.right (And.right (by assumption)))) | exact And.left (And.right (And.right (And.right (And.right (by assumption))))) | exact And.left (And.right (And.right (And.right (And.right (And.right (by assumption)))))) | exact And.left (And.right (And.right (And.right (And.right (And.right (And.right (by assumption))))))) | exact And.left (And.right (And.right (And.right (And.right (And.right (And.right (And.right (by assumption)))))))) | exact And.left (And.right (And.right (And.right (And.right (And.right (And.right (And.right (And.right (by assumption))))))))) | exact And.left (And.right (And.right (And.right (And.right (And.right (And.right (And.right (And.right (And.right (by assumption)))))))))) | exact And.left (And.right (And.right (And.right (And.right (And.right (And.right (And.right (And.right (And.right (And.right (by assumption))))))))))) | exact And.left (And.right (And.right (And.right (And.right (And.right (And.right (And.right (And.right (And.right (And.right (And.right (by assumption)))))))))))) | exact And.left (And.right (And.right (And.right (And.right (And.right (And.right (And.right (And.right (And.right (And.right (And.right (And.right (by assumption))))))))))))) | exact And.left (And.right (And.right (And.right (And.right (And.right (And.right (And.right (And.right (And.right (And.right (And.right (And.right (And.right (by assumption)))))))))))))) | exact And.left (And.right (And.right (And.right (And.right (And.right (And.right (And.right (And.right (And.right (And.right (And.right (And.right (And.right (And.right (by assumption))))))))))))))) | exact And.left (And.right (And.right (And.right (And.right (And.right (And.right (And.right (And.right (And.right (And.right (And.right (And.right (And.right (And.right (And.right (by assumption)))))))))))))))))
  (k_with "k_ne" => (refine neN ?_; (try dsimp only); first | assumption | exact Ne.symm (by assumption) | (refine Nat.ne_of_lt ?_; walk_at "my_lt") | (refine Nat.ne_of_gt ?_; walk_at "my_lt") | omega))
  (k_with "~my_for" => (k_here; (rename Fr _ _ _ _ => lF'z9); (with_unfolding_all refine' for_any lF'z9 ?_); (try walk_at "my_fold"); walk_say "MY FOR"))
  (k_with "~my_look" => first | with_reducible assumption | rfl | assumption)
  (k_with "~exec For Name Name cons nil" => walk_at "my_for")
  (k_with "~exec For Name Call cons nil" => walk_at "my_for")
  (k_with "~exec For Name List cons nil" => walk_at "my_for")
  (k_with "~exec For Tuple Name cons nil" => walk_at "my_for")
  (k_with "~exec For Tuple Call cons nil" => walk_at "my_for")
  (k_with "~exec For Name BinOp cons nil" => walk_at "my_for")
  (k_with "~TurnA" => (dsimp only [TurnA]))
  (k_with "~eval ListComp" => (k_here; k_dflt (refine' comp_any (by k_asm) (by with_unfolding_all rfl) (by decide) (by rfl) (by decide) (by decide) ?_); (try k_fold); walk_say "MY COMP"))
  (k_with "~exec Assign cons ListComp" => (k_here; k_dflt (refine' comp_assign (by k_asm) (by rfl) (by with_unfolding_all rfl) (by with_unfolding_all rfl) (by decide) (by rfl) (by decide) (by rfl) (by rfl) (by decide) ?_); (try k_fold); walk_say "MY COMP"))
  (k_with "~TestElt" => (dsimp only [TestElt]; (try k_fold)))
  (k_with "~compareOp In str ref" => (k_here; k_dflt (refine' in_tuple_strs (tupK (by k_in) (by k_is)) (by repeat constructor) ?_)))
  (k_with "~compareOp In str ref" => (k_here; k_dflt (refine' in_tuple_strs (News.isTup (by k_asm) (by k_mem)) (by repeat constructor) ?_)))
  (k_with "~my_strs" => first | exact StrsIn.of _ | exact StrsIn.nil | exact StrsIn.one _ _)
  (k_with "~compareOp Eq ref ref" => (k_here; k_dflt (refine' eq_strs (by k_asm) (by k_mem) (by k_mem) (by walk_at "my_strs") (by walk_at "my_strs") (by k_units) ?_)))
  (k_with "~compareOp NotEq ref ref" => (k_here; k_dflt (refine' ne_strs (by k_asm) (by k_mem) (by k_mem) (by walk_at "my_strs") (by walk_at "my_strs") (by k_units) ?_)))
  (k_with "~my_size" => (simp only [List.size_toArray, strValues, List.length_map, Array.length_toList, List.length_append, List.length_dropLast, List.length_cons, List.length_nil, sizeLine_eq]; omega))
  (k_with "~subscriptTail Name Slice ref ref" => (k_here; (with_reducible show wpAny _ _ (subscriptTail _ (PySem.Expr.Slice none _ none _) (Value.ref _) (Value.ref _)) _ _ _); k_dflt (refine' kms_slice_lit (by k_asm) (by k_asm) (by exact News.isList (by k_asm) (by k_mem)) (by kmk_part) (by kmk_part) (by exact pick_dropLast _) ?_ (by with_unfolding_all rfl) (by kmk_pure) (by walk_at "my_size")); intro D'z9 h'z9 F'z9 N'z9 l1z9; (try k_lt l1z9); (try k_sweep)))
  (k_with "~subscriptTail Name UnaryOp ref int" => (k_here; (with_reducible show wpAny _ _ (subscriptTail _ _ (Value.ref _) (Value.int _ _)) _ _ _); k_dflt (refine' item_last (by exact News.isList (by k_asm) (by k_mem)) (by assumption) ?_)))
  (k_with "~binaryOp Add ref ref" => (k_here; k_dflt (refine' kmk_add_lit (by k_asm) (by k_asm) (by exact News.isList (by k_asm) (by k_mem)) (by exact News.isList (by k_asm) (by k_mem)) (by first | exact add_one _ _ _ | exact add_two _ _) ?_ (by walk_at "my_size")); intro D'z9 h'z9 F'z9 N'z9 l1z9; (try k_lt l1z9); (try k_sweep)))
  (k_with "~call ref" => (k_here; (with_reducible show wpAny _ _ (call (Value.ref 52) _) _ _ _); ktf_call (c_small _ _ _ _)))
  (k_with "~my_signs" => (law_clear; simp only [s_a, s_z, s_A, s_Z, s_0, s_9, lt1, str1_eq, e_us, e_co, e_mi, e_do, smallB_iff, startB_iff, charB_iff, ← decide_not, decide_eq_decide, decide_eq_true_eq, decide_eq_false_iff_not, decide_eq_true_eq, eq_comm (a := true), Bool.not_eq_true, Bool.not_eq_false] at *; omega))
  (k_with "~call ref" => (k_here; (with_reducible show wpAny _ _ (call (Value.ref 59) _) _ _ _); ktf_call (c_start _ _ _ _ (by assumption))))
  (k_with "~call ref" => (k_here; (with_reducible show wpAny _ _ (call (Value.ref 66) _) _ _ _); ktf_call (c_char _ _ _ _ (by assumption))))
  (k_with "~call ref" => (k_here; (with_reducible show wpAny _ _ (call (Value.ref 73) _) _ _ _); ktf_call (c_nmtoken _ _ _ _ (by assumption))))
  (k_with "~call ref" => (k_here; (with_reducible show wpAny _ _ (call (Value.ref 80) _) _ _ _); ktf_call (c_name _ _ _ _ (by assumption))))
  (k_with "~call ref" => (k_here; (with_reducible show wpAny _ _ (call (Value.ref 121) _) _ _ _); ktf_call (c_blank _ _ _ _ (by assumption))))
  (k_with "~call ref" => (k_here; (with_reducible show wpAny _ _ (call (Value.ref 128) _) _ _ _); ktf_call (c_norm _ _ _ _ _ _ (by assumption))))
  (k_with "~call ref" => (k_here; (with_reducible show wpAny _ _ (call (Value.ref 135) _) _ _ _); ktf_call (c_words _ _ _ _ _ _ (by assumption))))
  (k_with "~call ref" => (k_here; (with_reducible show wpAny _ _ (call (Value.ref 142) _) _ _ _); ktf_call (c_isword _ _ _ _ _ _ (by assumption))))
  (k_with "~call ref" => (k_here; (with_reducible show wpAny _ _ (call (Value.ref 149) _) _ _ _); ktf_call (c_fits _ _ _ _ _ _ _ _ _ _ _ _ _ _ _ _ _ _ _ _ (by assumption) (by assumption) (by k_mem) (by k_mem) (by k_mem) (by assumption))))
  (k_with "~call ref" => (k_here; (with_reducible show wpAny _ _ (call (Value.ref 566) _) _ _ _); ktf_call (c_lawword _ _ _ _ _ (by assumption) (by assumption))))
  (k_with "~call ref" => (k_here; (with_reducible show wpAny _ _ (call (Value.ref 561) _) _ _ _); ktf_call (c_parted _ _ _ _ (by assumption) (by assumption))))
  (k_with "~call builtin:len" => (k_here; (with_reducible show wpAny _ _ (call (Value.builtin _) [Value.ref _]) _ _ _); k_dflt (refine' len_at (by exact News.isList (by k_asm) (by k_mem)) (by first | omega | ((simp only [List.length_cons, List.length_nil, List.length_append, List.length_map, strValues]); omega)) ?_)))
  (k_with "~my_pick" => first | exact Pick.head | (refine' Pick.tail (by walk_at "my_pick")))
  (k_with "~call ref" => (k_here; (with_reducible show wpAny _ _ (call (Value.ref 542) _) _ _ _); ktr_call (c_take _ _ _ _ _ _ (by assumption) (by first | assumption | decide) (by first | assumption | decide) (by walk_at "my_off")) ()))
  (k_with "~call ref" => (k_here; (with_reducible show wpAny _ _ (call (Value.ref 549) _) _ _ _); ktr_call (c_one _ _ _ _ _ _ _ (by assumption) (by k_mem) (by first | assumption | exact Nat.le_of_ble_eq_true rfl) (by first | assumption | exact Nat.le_of_ble_eq_true rfl) (by walk_at "my_off")) ()))
  (k_with "~call ref" => (k_here; (with_reducible show wpAny _ _ (call (Value.ref 554) _) _ _ _); ktr_call (c_value _ _ _ _ (by assumption) (by walk_at "my_off")) ()))
  (k_with "~call ref" => (k_here; (with_reducible show wpAny _ _ (call (Value.ref 571) _) _ _ _); ktf_call (c_kind _ _ _ _ _ _ (by first | assumption | decide +kernel) (by k_asm))))
  (k_with "~my_tree" => first | assumption | (refine TreeIn.mono ?_ (by assumption); walk_at "my_sub"))
  (k_with "~call ref" => (k_here; (with_reducible show wpAny _ _ (call (Value.ref 367) _) _ _ _); ktf_call (c_row _ _ _ _ _ _ (by walk_at "my_tree") (by assumption) (by assumption))))
  (k_with "~call ref" => (k_here; (with_reducible show wpAny _ _ (call (Value.ref 444) _) _ _ _); ktf_call (c_tkind _ _ _ _ _ _ (by walk_at "my_tree") (by assumption) (by assumption))))
  (k_with "~call ref" => (k_here; (with_reducible show wpAny _ _ (call (Value.ref 451) _) _ _ _); ktf_call (c_tname _ _ _ _ _ _ (by walk_at "my_tree") (by assumption) (by assumption))))
  (k_with "~call ref" => (k_here; (with_reducible show wpAny _ _ (call (Value.ref 472) _) _ _ _); ktf_call (c_tvalue _ _ _ _ _ _ (by walk_at "my_tree") (by assumption) (by assumption))))
  (k_with "~call ref" => (k_here; (with_reducible show wpAny _ _ (call (Value.ref 486) _) _ _ _); ktf_call (c_children _ _ _ _ _ _ (by walk_at "my_tree") (by assumption) (by assumption))))
  (k_with "~call ref" => (k_here; (with_reducible show wpAny _ _ (call (Value.ref 493) _) _ _ _); ktf_call (c_attributes _ _ _ _ _ _ (by walk_at "my_tree") (by assumption) (by assumption))))
  (k_with "~call ref" => (k_here; (with_reducible show wpAny _ _ (call (Value.ref 451) _) _ _ _); ktf_call (c_tnameX _ _ _ _ _ _ _ (by walk_at "my_tree") (by assumption) (by assumption) (by first | assumption | exact rfl))))
  (k_with "k_ne" => (refine neN ?_; (try dsimp only); first | assumption | exact Ne.symm (by assumption) | (refine Nat.ne_of_lt ?_; walk_at "my_lt") | (refine Nat.ne_of_gt ?_; walk_at "my_lt") | omega | exact ne_of_mem (by assumption) (by k_mem) | exact Ne.symm (ne_of_mem (by assumption) (by k_mem))))
  (k_with "~exec While Compare cons nil" => (k_here; (rename Fr _ _ _ _ => lF'z9); (with_unfolding_all refine' while_any lF'z9 ?_); walk_say "MY WHILE"))
  (k_with "~my_ints" => first | exact IntsIn.of _ | exact IntsIn.nil | exact IntsIn.snoc _ _ _)
  (k_with "~compareOp Eq ref ref" => (k_here; k_dflt (refine' eq_ints (by k_asm) (by k_mem) (by k_mem) (by walk_at "my_ints") (by walk_at "my_ints") (by k_units) ?_)))
  (k_with "~compareOp NotEq ref ref" => (k_here; k_dflt (refine' ne_ints (by k_asm) (by k_mem) (by k_mem) (by walk_at "my_ints") (by walk_at "my_ints") (by k_units) ?_)))
  (k_with "~my_size" => (simp only [List.size_toArray, strValues, intVals, refVals, List.length_map, Array.length_toList, List.length_append, List.length_reverse, List.length_dropLast, List.length_cons, List.length_nil, sizeLine_eq]; omega))
  (k_with "~call builtin:list.append" => (k_here; (with_reducible show wpAny _ _ (call (Value.builtin _) [Value.ref _, _]) _ _ _); k_dflt (refine' append_my (by k_asm) (by k_asm) (by k_upd) (by walk_at "my_size") ?_); intro h'z9 F'z9 N'z9; (try k_sweep)))
  (k_with "~call builtin:list.pop" => (k_here; (with_reducible show wpAny _ _ (call (Value.builtin _) [Value.ref _]) _ _ _); k_dflt (refine' pop_my (by k_asm) (by k_asm) (by k_upd) (by walk_at "my_size") ?_); intro h'z9 F'z9 N'z9; (try k_sweep)))
  (k_with "~call builtin:list.extend" => (k_here; (with_reducible show wpAny _ _ (call (Value.builtin _) [Value.ref _, Value.ref _]) _ _ _); k_dflt (refine' extend_my (by k_asm) (by k_asm) (by k_mem) (by (intro k8z9; k_upd)) (by walk_at "my_size") ?_); intro k9z9 h'z9 F'z9 N'z9; (try dsimp only at N'z9); (try k_sweep)))
  (k_with "~subscriptTail Name Slice ref ref" => (k_here; (with_reducible show wpAny _ _ (subscriptTail _ (PySem.Expr.Slice none none (some _) _) (Value.ref _) (Value.ref _)) _ _ _); k_dflt (refine' rev_my (by k_asm) (by k_asm) (by exact News.isList (by k_asm) (by k_mem)) (by exact IsPart.int _ _) (by with_unfolding_all rfl) (by kmk_pure) (by walk_at "my_size") ?_); intro D'z9 h'z9 F'z9 N'z9 l1z9; (try k_lt l1z9); (try k_sweep)))
  (k_with "~my_dtd" => first | assumption | (refine DtdIn.mono ?_ (by assumption); walk_at "my_sub"))
  (k_with "~call ref" => (k_here; (with_reducible show wpAny _ _ (call (Value.ref 289) _) _ _ _); ktf_call (c_idname _ _ _ _ (by walk_at "my_dtd"))))
  (k_with "~call ref" => (k_here; (with_reducible show wpAny _ _ (call (Value.ref 277) _) _ _ _); ktf_call (c_rule _ _ _ _ _ _ _ (by walk_at "my_dtd") (by assumption))))
  (k_with "~call ref" => (k_here; (with_reducible show wpAny _ _ (call (Value.ref 156) _) _ _ _); ktf_call (c_walk _ _ _ _ _ _ (by walk_at "my_tree") (by assumption) (by assumption) (by assumption) (by assumption))))
  (k_with "~call ref" => (k_here; (with_reducible show wpAny _ _ (call (Value.ref 170) _) _ _ _); ktf_call (c_idtable _ _ _ _ _ _ (by walk_at "my_tree") (by walk_at "my_dtd") (by assumption) (by assumption))))
  (k_with "~my_tail" => first | assumption | (refine' List.mem_cons_of_mem _ ?_; walk_at "my_tail") | (refine' List.mem_append_left _ ?_; walk_at "my_tail") | (refine' List.mem_append_right _ ?_; walk_at "my_tail"))
  (k_with "k_mem" => first | exact List.mem_cons_self | ktr_member | (refine' List.mem_cons_of_mem _ ?_; k_mem) | (refine' List.mem_append_right _ ?_; k_mem) | (refine' List.mem_append_left _ ?_; k_mem))
  (k_with "~my_sub" => first | exact fun _ hpz9 => hpz9 | exact List.forall_mem_nil _ | (refine' List.forall_mem_cons.mpr ⟨?_, ?_⟩; k_mem; walk_at "my_sub") | (intro pz9 hpz9; walk_at "my_tail") | (refine' List.forall_mem_append.mpr ⟨?_, ?_⟩; walk_at "my_sub"; walk_at "my_sub"))
  (k_with "~call ref" => (k_here; (with_reducible show wpAny _ _ (call (Value.ref 184) _) _ _ _); ktf_call (c_broken _ _ _ _ _ _ (by walk_at "my_tree") (by walk_at "my_dtd") (by assumption) (by assumption))))
  (k_with "~call ref" => (k_here; (with_reducible show wpAny _ _ (call (Value.ref 177) _) _ _ _); ktf_call (c_refs _ _ _ _ _ _ _ _ (by walk_at "my_tree") (by walk_at "my_dtd") (by assumption) (by assumption) (by assumption) (by assumption) (by assumption))))
  (k_with "~call ref" => (k_here; (with_reducible show wpAny _ _ (call (Value.ref 189) _) _ _ _); ktf_call (c_referring _ _ _ _ _ _ _ _ (by walk_at "my_tree") (by walk_at "my_dtd") (by assumption) (by assumption))))
  (k_with "~my_below" => first | assumption | exact ktn_ltOf (by first | assumption | exact And.right (by assumption) | exact And.right (And.right (by assumption)) | exact And.right (And.right (And.right (by assumption))) | exact And.right (And.right (And.right (And.right (by assumption))))))
  (k_with "k_room" => ktr_room)
  trivial
set_option maxHeartbeats 1600000 in
theorem c_newrow (w : World) (t td rl : Addr) (h : Int) (tk t1 t2 t3 t4 t5 : Tok) (n n0 : Nat) (vs : List Value) (kd nm vl : Str) (pv : Value) (R : Led) (h1 : (t, instObj 524 td) ∈ R) (h2 : (td, dictOf [⟨h, .str (Str.ofString "rows") tk, .ref rl⟩] n) ∈ R) (hz : vs.length ≤ 100) (hR : ∀ p ∈ R, p.1 ≠ rl) :
    Con w 3 360 [.ref t, .str kd t1, .str nm t2, .str (Str.ofString "") t3, .str nm t4, .str vl t5, pv] ((rl, listOf vs.toArray n0) :: R) (fun news' r => ∃ nw nd n1 tk, (NodeIn nw nd ∧ vw nd = ⟨kd, nm, vl, [], []⟩ ∧ Fr2 nw ((rl, listOf vs.toArray n0) :: R) ∧ @Ne Nat nd.ck nd.ak) ∧ r = .int ((vs.length : Nat) : Int) tk ∧ news' = (rl, listOf (vs ++ [Value.ref nd.r]).toArray n1) :: (R ++ nw)) := by
  unfold Con; k_fill; intro loose mean mg mb dp un gd cn cs a ccd cl outer A₀ base h₀ L m s Q E B F X N Tp hk hdp hun hret; walk_at "my_enter"
  k_steps
  (try walk_at "my_fold")
  rename News h₀ L _ _ => NE
  simp only [List.length_append, List.length_cons, List.length_nil]
  rw [show (((vs.length + (0 + 1) : Nat) : Int) - 1) = ((vs.length : Nat) : Int) by omega]
  obtain ⟨nw, nd, b1, b2, b3⟩ := new_end (orl0 := listOf vs.toArray n0) NE (by walk_at "my_below") (by omega) (by omega) (by omega) (by omega)
  exact hret _ _ _ _ (by k_asm) b3 ⟨nw, nd, _, _, b1, rfl, by rw [b2]⟩
end

theorem cut2_inst {h₀ h : Heap} {L a b x C d : Addr} {l : Led} {ia ib : Array Value} {na nb : Nat} (N : News h₀ L h l) (ha : (a, listOf ia na) ∈ l) (hb : (b, listOf ib nb) ∈ l) (hx : (x, instObj C d) ∈ l) : (x, instObj C d) ∈ cut2 a b l :=
  cut2_mem.mpr ⟨hx, (by rintro rfl; exact inst_list (News.uniq N hx ha)), (by rintro rfl; exact inst_list (News.uniq N hx hb))⟩
theorem cut2_dict {h₀ h : Heap} {L a b x : Addr} {l : Led} {es : List DictEntry} {n : Nat} {ia ib : Array Value} {na nb : Nat} (N : News h₀ L h l) (ha : (a, listOf ia na) ∈ l) (hb : (b, listOf ib nb) ∈ l) (hx : (x, dictOf es n) ∈ l) : (x, dictOf es n) ∈ cut2 a b l :=
  cut2_mem.mpr ⟨hx, (by rintro rfl; exact dict_list (News.uniq N hx ha)), (by rintro rfl; exact dict_list (News.uniq N hx hb))⟩
def TSmall (T : TreeS) : Prop := T.nodes.length ≤ 90 ∧ ∀ nd ∈ T.nodes, nd.kids.length ≤ 90 ∧ nd.attrs.length ≤ 90 ∧ ValT nd.val
theorem TSmall.ok {T : TreeS} (h : TSmall T) : TOk T := ⟨by have := h.1; omega, fun nd hm => by have := h.2 nd hm; exact ⟨by omega, by omega, this.2.2⟩⟩
theorem refs_at {T : TreeS} {k : Nat} {nd : Nd} {us : List Value} (hn : T.nodes[k]? = some nd) : (refVals T.nodes ++ us)[((k : Nat) : Int).toNat]? = some (.ref nd.r) := by
  have h := refVals_at hn
  have hk := (List.getElem?_eq_some_iff.mp h).1
  rw [show ((k : Nat) : Int).toNat = k by omega, List.getElem?_append_left hk, h]
theorem built_end {h₀ h h' : Heap} {L : Addr} {rest tl nw : Led} {T : TreeS} {k : Nat} {nd nd1 new : Nd} {pq : Nat × Tok} {lst : Addr} {vs0 vs : List Value} {m0 n1 n2 : Nat}
    (N : News h₀ L h (rest ++ tl)) (hT : TreeIn tl T) (hs : TSep T) (hn : T.nodes[k]? = some nd) (hap : Apart rest tl)
    (hla0 : (lst, listOf vs0.toArray m0) ∈ tl) (hla : (lst = nd.ck ∧ nd1 = nd.kid pq n2 ∧ vs = intVals nd1.kids) ∨ (lst = nd.ak ∧ nd1 = nd.att pq n2 ∧ vs = intVals nd1.attrs)) (hnw : NodeIn nw new) (hne : @Ne Nat new.ck new.ak)
    (hfr : Fr2 nw ((T.rl, listOf (refVals T.nodes).toArray T.rn) :: (lst, listOf vs0.toArray m0) :: cut2 T.rl lst (rest ++ tl)))
    (NE : News h₀ L h' ((T.rl, listOf (refVals T.nodes ++ [Value.ref new.r]).toArray n1) :: (lst, listOf vs.toArray n2) :: (cut2 T.rl lst (rest ++ tl) ++ nw))) :
    ∃ tl' T', News h₀ L h' (rest ++ tl') ∧ TreeIn tl' T' ∧ TSep T' ∧ Apart rest tl' ∧ T'.t = T.t ∧ views T' = (views T).set k (vw nd1) ++ [vw new] := by
  have hrl := hT.r
  have all : ∀ p ∈ rest ++ tl, ∀ q ∈ nw, p.1 ≠ q.1 := fun p hp q hq => hfr q hq p (cut2_sub N (List.mem_append_right _ hrl) (List.mem_append_right _ hla0) p hp)
  have allT : ∀ p ∈ tl, ∀ q ∈ nw, p.1 ≠ q.1 := fun p hp => all p (List.mem_append_right _ hp)
  have Ntl : News h₀ L h tl := fun p hp => N p (List.mem_append_right _ hp)
  have hck : nd1.ck = nd.ck := by rcases hla with ⟨_, rfl, _⟩ | ⟨_, rfl, _⟩ <;> rfl
  have hak : nd1.ak = nd.ak := by rcases hla with ⟨_, rfl, _⟩ | ⟨_, rfl, _⟩ <;> rfl
  refine ⟨nw ++ ((T.rl, listOf (refVals T.nodes ++ [Value.ref new.r]).toArray n1) :: (lst, listOf vs.toArray n2) :: cut2 T.rl lst tl), grown T k nd1 new n1, ?_, TreeIn.grow Ntl hT hs hn hla0 hla hnw, ?_, ?_, rfl, views_grown T k n1 nd1 new⟩
  · refine cb_drop NE (List.forall_mem_append.mpr ⟨fun p hp => ?_, List.forall_mem_append.mpr ⟨fun p hp => by simp [hp], fun p hp => ?_⟩⟩)
    · have hc : p ∈ cut2 T.rl lst (rest ++ tl) := cut2_mem.mpr ⟨List.mem_append_left _ hp, fun e => hap p hp _ hrl e.symm, fun e => hap p hp _ hla0 e.symm⟩
      simp [hc]
    · rcases List.mem_cons.mp hp with rfl | hp
      · exact List.mem_cons_self
      · rcases List.mem_cons.mp hp with rfl | hp
        · exact List.mem_cons_of_mem _ List.mem_cons_self
        · have hm := cut2_mem.mp hp
          have := cut2_mem.mpr ⟨List.mem_append_right rest hm.1, hm.2⟩
          simp [this]
  · exact hs.grow hn hck hak ⟨allT _ hrl _ hnw.k, allT _ hrl _ hnw.a, hne⟩ fun y hy => ⟨⟨allT _ (hT.nodes y hy).k _ hnw.k, allT _ (hT.nodes y hy).k _ hnw.a⟩, allT _ (hT.nodes y hy).a _ hnw.k, allT _ (hT.nodes y hy).a _ hnw.a⟩
  · intro p hp q hq
    rcases List.mem_append.mp hq with hq | hq
    · exact Ne.symm (all p (List.mem_append_left _ hp) q hq)
    · rcases List.mem_cons.mp hq with rfl | hq
      · have z := hap p hp _ hrl
        exact z
      · rcases List.mem_cons.mp hq with rfl | hq
        · have z := hap p hp _ hla0
          exact z
        · exact hap p hp q (cut2_mem.mp hq).1
theorem vw_kid (nd : Nd) (n c : Nat) (t : Tok) : vw (nd.kid (n, t) c) = { vw nd with kids := (vw nd).kids ++ [n] } := by simp [vw, Nd.kid]
theorem vw_att (nd : Nd) (n c : Nat) (t : Tok) : vw (nd.att (n, t) c) = { vw nd with attrs := (vw nd).attrs ++ [n] } := by simp [vw, Nd.att]
def elPN : PN := ⟨Str.ofString "element", Str.ofString "e", Str.ofString "", [], []⟩
section
theorem w30 : True := by
  k_with_none
  (k_with "~my_fold" => ((fail_if_success (fail_if_success k_fold)); (refine (let qk := _; (?_ : wpAny _ _ _ qk _ _)))))
  (k_with "~my_state" => ((fail_if_success (fail_if_success (conv => arg 6; pattern PySem.Shared.mk _ _ _ _ _))); (refine (let sk := _; (?_ : wpAny _ _ _ _ _ sk)))))
  (k_with "~my_around" => ((try refine (let vk := _; (?_ : wpAny _ _ (execs _ vk) _ _ _))); (refine (let ak := _; (?_ : wpAny _ ak _ _ _ _)))))
  (k_with "~my_enter" => (refine wpAny_call ?_; k_dflt ktr_enter; (try walk_at "my_around")))
  (k_with "~use2" => (
  (first | (refine post00 ?_; intro h9z9 tk9z9 F9z9 N9z9) | (refine post10 ?_; intro x1z9 h9z9 tk9z9 F9z9 N9z9) | (refine post20 ?_; intro x1z9 x2z9 h9z9 tk9z9 F9z9 N9z9) | (refine post21 ?_; intro x1z9 x2z9 q1z9 h9z9 tk9z9 F9z9 N9z9) | (refine post22 ?_; intro x1z9 x2z9 q1z9 q2z9 h9z9 tk9z9 F9z9 N9z9) | (refine post31 ?_; intro x1z9 x2z9 x3z9 q1z9 h9z9 tk9z9 F9z9 N9z9) | (refine post32 ?_; intro x1z9 x2z9 x3z9 q1z9 q2z9 h9z9 tk9z9 F9z9 N9z9) | (refine post33 ?_; intro x1z9 x2z9 x3z9 q1z9 q2z9 q3z9 h9z9 tk9z9 F9z9 N9z9) | (refine post41 ?_; intro x1z9 x2z9 x3z9 x4z9 q1z9 h9z9 tk9z9 F9z9 N9z9))
  (try walk_at "my_fold")
  (try dsimp only)
  (try k_sweep)
  (try walk_at "my_fold")))
  (k_with "~my_tail" => first | assumption | (refine' List.mem_cons_of_mem _ ?_; walk_at "my_tail"))
  (k_with "~my_sub" => first | exact fun _ hpz9 => hpz9 | exact List.forall_mem_nil _ | (refine' List.forall_mem_cons.mpr ⟨?_, ?_⟩; k_mem; walk_at "my_sub") | (intro pz9 hpz9; walk_at "my_tail"))
  (k_with "k_units" => ktr_units)
  (k_with "k_mem" => first | exact List.mem_cons_self | ktr_member | (refine' List.mem_cons_of_mem _ ?_; k_mem))
  (k_with "~my_and" => first | assumption | (refine And.right ?_; walk_at "my_and"))
  (k_with "~my_fresh" => first | assumption | exact ne_of_lts (by assumption) | exact ne_of_allLt (by first | assumption | exact And.right (by assumption) | exact And.right (And.right (by assumption)) | exact And.right (And.right (And.right (by assumption))) | exact And.right (And.right (And.right (And.right (by assumption)))) | exact And.right (And.right (And.right (And.right (And.right (by assumption))))) | exact And.right (And.right (And.right (And.right (And.right (And.right (by assumption)))))) | exact And.right (And.right (And.right (And.right (And.right (And.right (And.right (by assumption))))))) | exact And.right (And.right (And.right (And.right (And.right (And.right (And.right (And.right (by assumption))))))))))
  (k_with "~my_off" => first | assumption | exact List.forall_mem_nil _ | (refine' List.forall_mem_cons.mpr ⟨?_, ?_⟩; (first | k_ne | exact (by assumption : ∀ pz9 ∈ (_ : Led), pz9.1 ≠ _) _ (by k_mem)); walk_at "my_off") | (intro pz9 hpz9; first | exact (by assumption : ∀ pz9 ∈ (_ : Led), pz9.1 ≠ _) pz9 hpz9 | exact (by assumption : ∀ pz9 ∈ (_ : Led), pz9.1 ≠ _) pz9 (by walk_at "my_tail") | (have h9z9 := ltN ((by assumption : ∀ pz9 ∈ (_ : Led), pz9.1 < _) pz9 hpz9); refine neN ?_; omega)))
  (k_with "k_all" => walk_at "my_off")
  (k_with "~my_lt" => first | assumption | exact And.left (by assumption) | exact And.left (And.right (by assumption)) | exact And.left (And.right (And.right (by assumption))) | exact And.left (And.right (And.right (And.right (by assumption)))) | exact And.left (And.right (And.right (And.right (And.right (by assumption))))) | exact And.left (And.right (And.right (And.right (And.right (And.right (by assumption)))))) | exact And.left (And.right (And.right (And.right (And.right (And.right (And.right (by assumption))))))) | exact And.left (And.right (And.right (And.right (And.right (And.right (And.right (And.right (by assumption)))))))) | exact And.left (And.right (And.right (And.right (And.right (And.right (And.right (And.right (And.right (by assumption))))))))) | exact And.left (And.right (And.right (And.right (And.right (And.right (And.right (And.right (And.right (And.right (by assumption)))))))))) | exact And.left (And.right (And.right (And.right (And.right (And.right (And.right (And.right (And.right (And.right (And.right (by assumption))))))))))) | exact And.left (And.right (And.right (And.right (And.right (And.right (And.right (And.right (And.right (And.right (And.right (And.right (by assumption)))))))))))) | exact And.left (And.right (And.right (And.right (And.right (And.right (And.right (And.right (And.right (And.right (And.right (And.right (And.right (by assumption))))))))))))) | exact And.left (And.right (And.right (And.right (And.right (And.right (And.right (And.right (And.right (And.right (And.right (And.right (And.right (And.right (by assumption)))))))))))))) | exact And.left (And.right (And.right (And.right (And.right (And.right (And.right (And.right (And.right (And.right (And.right (And.right (And.right (And.right (And.right (by assumption))))))))))))))) | exact And.left (And.right (And.right (And.right (And.right (And.right (And.right (And.right (And.right (And.right (And.right (And.right (And.right (And.right (And.right (And.right (by assumption)))))))))))))))))
  (k_with "k_ne" => (refine neN ?_; (try dsimp only); first | assumption | exact Ne.symm (by assumption) | (refine Nat.ne_of_lt ?_; walk_at "my_lt") | (refine Nat.ne_of_gt ?_; walk_at "my_lt") | omega))
  (k_with "~my_for" => (k_here; (rename Fr _ _ _ _ => lF'z9); (with_unfolding_all refine' for_any lF'z9 ?_); (try walk_at "my_fold"); walk_say "MY FOR"))
  (k_with "~my_look" => first | with_reducible assumption | rfl | assumption)
  (k_with "~exec For Name Name cons nil" => walk_at "my_for")
  (k_with "~exec For Name Call cons nil" => walk_at "my_for")
  (k_with "~exec For Name List cons nil" => walk_at "my_for")
  (k_with "~exec For Tuple Name cons nil" => walk_at "my_for")
  (k_with "~exec For Tuple Call cons nil" => walk_at "my_for")
  (k_with "~exec For Name BinOp cons nil" => walk_at "my_for")
  (k_with "~TurnA" => (dsimp only [TurnA]))
  (k_with "~eval ListComp" => (k_here; k_dflt (refine' comp_any (by k_asm) (by with_unfolding_all rfl) (by decide) (by rfl) (by decide) (by decide) ?_); (try k_fold); walk_say "MY COMP"))
  (k_with "~exec Assign cons ListComp" => (k_here; k_dflt (refine' comp_assign (by k_asm) (by rfl) (by with_unfolding_all rfl) (by with_unfolding_all rfl) (by decide) (by rfl) (by decide) (by rfl) (by rfl) (by decide) ?_); (try k_fold); walk_say "MY COMP"))
  (k_with "~TestElt" => (dsimp only [TestElt]; (try k_fold)))
  (k_with "~compareOp In str ref" => (k_here; k_dflt (refine' in_tuple_strs (tupK (by k_in) (by k_is)) (by repeat constructor) ?_)))
  (k_with "~compareOp In str ref" => (k_here; k_dflt (refine' in_tuple_strs (News.isTup (by k_asm) (by k_mem)) (by repeat constructor) ?_)))
  (k_with "~my_strs" => first | exact StrsIn.of _ | exact StrsIn.nil | exact StrsIn.one _ _)
  (k_with "~compareOp Eq ref ref" => (k_here; k_dflt (refine' eq_strs (by k_asm) (by k_mem) (by k_mem) (by walk_at "my_strs") (by walk_at "my_strs") (by k_units) ?_)))
  (k_with "~compareOp NotEq ref ref" => (k_here; k_dflt (refine' ne_strs (by k_asm) (by k_mem) (by k_mem) (by walk_at "my_strs") (by walk_at "my_strs") (by k_units) ?_)))
  (k_with "~my_size" => (simp only [List.size_toArray, strValues, List.length_map, Array.length_toList, List.length_append, List.length_dropLast, List.length_cons, List.length_nil, sizeLine_eq]; omega))
  (k_with "~subscriptTail Name Slice ref ref" => (k_here; (with_reducible show wpAny _ _ (subscriptTail _ (PySem.Expr.Slice none _ none _) (Value.ref _) (Value.ref _)) _ _ _); k_dflt (refine' kms_slice_lit (by k_asm) (by k_asm) (by exact News.isList (by k_asm) (by k_mem)) (by kmk_part) (by kmk_part) (by exact pick_dropLast _) ?_ (by with_unfolding_all rfl) (by kmk_pure) (by walk_at "my_size")); intro D'z9 h'z9 F'z9 N'z9 l1z9; (try k_lt l1z9); (try k_sweep)))
  (k_with "~subscriptTail Name UnaryOp ref int" => (k_here; (with_reducible show wpAny _ _ (subscriptTail _ _ (Value.ref _) (Value.int _ _)) _ _ _); k_dflt (refine' item_last (by exact News.isList (by k_asm) (by k_mem)) (by assumption) ?_)))
  (k_with "~binaryOp Add ref ref" => (k_here; k_dflt (refine' kmk_add_lit (by k_asm) (by k_asm) (by exact News.isList (by k_asm) (by k_mem)) (by exact News.isList (by k_asm) (by k_mem)) (by first | exact add_one _ _ _ | exact add_two _ _) ?_ (by walk_at "my_size")); intro D'z9 h'z9 F'z9 N'z9 l1z9; (try k_lt l1z9); (try k_sweep)))
  (k_with "~call ref" => (k_here; (with_reducible show wpAny _ _ (call (Value.ref 52) _) _ _ _); ktf_call (c_small _ _ _ _)))
  (k_with "~my_signs" => (law_clear; simp only [s_a, s_z, s_A, s_Z, s_0, s_9, lt1, str1_eq, e_us, e_co, e_mi, e_do, smallB_iff, startB_iff, charB_iff, ← decide_not, decide_eq_decide, decide_eq_true_eq, decide_eq_false_iff_not, decide_eq_true_eq, eq_comm (a := true), Bool.not_eq_true, Bool.not_eq_false] at *; omega))
  (k_with "~call ref" => (k_here; (with_reducible show wpAny _ _ (call (Value.ref 59) _) _ _ _); ktf_call (c_start _ _ _ _ (by assumption))))
  (k_with "~call ref" => (k_here; (with_reducible show wpAny _ _ (call (Value.ref 66) _) _ _ _); ktf_call (c_char _ _ _ _ (by assumption))))
  (k_with "~call ref" => (k_here; (with_reducible show wpAny _ _ (call (Value.ref 73) _) _ _ _); ktf_call (c_nmtoken _ _ _ _ (by assumption))))
  (k_with "~call ref" => (k_here; (with_reducible show wpAny _ _ (call (Value.ref 80) _) _ _ _); ktf_call (c_name _ _ _ _ (by assumption))))
  (k_with "~call ref" => (k_here; (with_reducible show wpAny _ _ (call (Value.ref 121) _) _ _ _); ktf_call (c_blank _ _ _ _ (by assumption))))
  (k_with "~call ref" => (k_here; (with_reducible show wpAny _ _ (call (Value.ref 128) _) _ _ _); ktf_call (c_norm _ _ _ _ _ _ (by assumption))))
  (k_with "~call ref" => (k_here; (with_reducible show wpAny _ _ (call (Value.ref 135) _) _ _ _); ktf_call (c_words _ _ _ _ _ _ (by assumption))))
  (k_with "~call ref" => (k_here; (with_reducible show wpAny _ _ (call (Value.ref 142) _) _ _ _); ktf_call (c_isword _ _ _ _ _ _ (by assumption))))
  (k_with "~call ref" => (k_here; (with_reducible show wpAny _ _ (call (Value.ref 149) _) _ _ _); ktf_call (c_fits _ _ _ _ _ _ _ _ _ _ _ _ _ _ _ _ _ _ _ _ (by assumption) (by assumption) (by k_mem) (by k_mem) (by k_mem) (by assumption))))
  (k_with "~call ref" => (k_here; (with_reducible show wpAny _ _ (call (Value.ref 566) _) _ _ _); ktf_call (c_lawword _ _ _ _ _ (by assumption) (by assumption))))
  (k_with "~call ref" => (k_here; (with_reducible show wpAny _ _ (call (Value.ref 561) _) _ _ _); ktf_call (c_parted _ _ _ _ (by assumption) (by assumption))))
  (k_with "~call builtin:len" => (k_here; (with_reducible show wpAny _ _ (call (Value.builtin _) [Value.ref _]) _ _ _); k_dflt (refine' len_at (by exact News.isList (by k_asm) (by k_mem)) (by first | omega | ((simp only [List.length_cons, List.length_nil, List.length_append, List.length_map, strValues]); omega)) ?_)))
  (k_with "~my_pick" => first | exact Pick.head | (refine' Pick.tail (by walk_at "my_pick")))
  (k_with "~call ref" => (k_here; (with_reducible show wpAny _ _ (call (Value.ref 542) _) _ _ _); ktr_call (c_take _ _ _ _ _ _ (by assumption) (by first | assumption | decide) (by first | assumption | decide) (by walk_at "my_off")) ()))
  (k_with "~call ref" => (k_here; (with_reducible show wpAny _ _ (call (Value.ref 549) _) _ _ _); ktr_call (c_one _ _ _ _ _ _ _ (by assumption) (by k_mem) (by first | assumption | exact Nat.le_of_ble_eq_true rfl) (by first | assumption | exact Nat.le_of_ble_eq_true rfl) (by walk_at "my_off")) ()))
  (k_with "~call ref" => (k_here; (with_reducible show wpAny _ _ (call (Value.ref 554) _) _ _ _); ktr_call (c_value _ _ _ _ (by assumption) (by walk_at "my_off")) ()))
  (k_with "~call ref" => (k_here; (with_reducible show wpAny _ _ (call (Value.ref 571) _) _ _ _); ktf_call (c_kind _ _ _ _ _ _ (by first | assumption | decide +kernel) (by k_asm))))
  (k_with "~my_tree" => first | assumption | (refine TreeIn.mono ?_ (by assumption); walk_at "my_sub"))
  (k_with "~call ref" => (k_here; (with_reducible show wpAny _ _ (call (Value.ref 367) _) _ _ _); ktf_call (c_row _ _ _ _ _ _ (by walk_at "my_tree") (by assumption) (by assumption))))
  (k_with "~call ref" => (k_here; (with_reducible show wpAny _ _ (call (Value.ref 444) _) _ _ _); ktf_call (c_tkind _ _ _ _ _ _ (by walk_at "my_tree") (by assumption) (by assumption))))
  (k_with "~call ref" => (k_here; (with_reducible show wpAny _ _ (call (Value.ref 451) _) _ _ _); ktf_call (c_tname _ _ _ _ _ _ (by walk_at "my_tree") (by assumption) (by assumption))))
  (k_with "~call ref" => (k_here; (with_reducible show wpAny _ _ (call (Value.ref 472) _) _ _ _); ktf_call (c_tvalue _ _ _ _ _ _ (by walk_at "my_tree") (by assumption) (by assumption))))
  (k_with "~call ref" => (k_here; (with_reducible show wpAny _ _ (call (Value.ref 486) _) _ _ _); ktf_call (c_children _ _ _ _ _ _ (by walk_at "my_tree") (by assumption) (by assumption))))
  (k_with "~call ref" => (k_here; (with_reducible show wpAny _ _ (call (Value.ref 493) _) _ _ _); ktf_call (c_attributes _ _ _ _ _ _ (by walk_at "my_tree") (by assumption) (by assumption))))
  (k_with "~call ref" => (k_here; (with_reducible show wpAny _ _ (call (Value.ref 451) _) _ _ _); ktf_call (c_tnameX _ _ _ _ _ _ _ (by walk_at "my_tree") (by assumption) (by assumption) (by first | assumption | exact rfl))))
  (k_with "k_ne" => (refine neN ?_; (try dsimp only); first | assumption | exact Ne.symm (by assumption) | (refine Nat.ne_of_lt ?_; walk_at "my_lt") | (refine Nat.ne_of_gt ?_; walk_at "my_lt") | omega | exact ne_of_mem (by assumption) (by k_mem) | exact Ne.symm (ne_of_mem (by assumption) (by k_mem))))
  (k_with "~exec While Compare cons nil" => (k_here; (rename Fr _ _ _ _ => lF'z9); (with_unfolding_all refine' while_any lF'z9 ?_); walk_say "MY WHILE"))
  (k_with "~my_ints" => first | exact IntsIn.of _ | exact IntsIn.nil | exact IntsIn.snoc _ _ _)
  (k_with "~compareOp Eq ref ref" => (k_here; k_dflt (refine' eq_ints (by k_asm) (by k_mem) (by k_mem) (by walk_at "my_ints") (by walk_at "my_ints") (by k_units) ?_)))
  (k_with "~compareOp NotEq ref ref" => (k_here; k_dflt (refine' ne_ints (by k_asm) (by k_mem) (by k_mem) (by walk_at "my_ints") (by walk_at "my_ints") (by k_units) ?_)))
  (k_with "~my_size" => (simp only [List.size_toArray, strValues, intVals, refVals, List.length_map, Array.length_toList, List.length_append, List.length_reverse, List.length_dropLast, List.length_cons, List.length_nil, sizeLine_eq]; omega))
  (k_with "~call builtin:list.append" => (k_here; (with_reducible show wpAny _ _ (call (Value.builtin _) [Value.ref _, _]) _ _ _); k_dflt (refine' append_my (by k_asm) (by k_asm) (by k_upd) (by walk_at "my_size") ?_); intro h'z9 F'z9 N'z9; (try k_sweep)))
  (k_with "~call builtin:list.pop" => (k_here; (with_reducible show wpAny _ _ (call (Value.builtin _) [Value.ref _]) _ _ _); k_dflt (refine' pop_my (by k_asm) (by k_asm) (by k_upd) (by walk_at "my_size") ?_); intro h'z9 F'z9 N'z9; (try k_sweep)))
  (k_with "~call builtin:list.extend" => (k_here; (with_reducible show wpAny _ _ (call (Value.builtin _) [Value.ref _, Value.ref _]) _ _ _); k_dflt (refine' extend_my (by k_asm) (by k_asm) (by k_mem) (by (intro k8z9; k_upd)) (by walk_at "my_size") ?_); intro k9z9 h'z9 F'z9 N'z9; (try dsimp only at N'z9); (try k_sweep)))
  (k_with "~subscriptTail Name Slice ref ref" => (k_here; (with_reducible show wpAny _ _ (subscriptTail _ (PySem.Expr.Slice none none (some _) _) (Value.ref _) (Value.ref _)) _ _ _); k_dflt (refine' rev_my (by k_asm) (by k_asm) (by exact News.isList (by k_asm) (by k_mem)) (by exact IsPart.int _ _) (by with_unfolding_all rfl) (by kmk_pure) (by walk_at "my_size") ?_); intro D'z9 h'z9 F'z9 N'z9 l1z9; (try k_lt l1z9); (try k_sweep)))
  (k_with "~my_dtd" => first | assumption | (refine DtdIn.mono ?_ (by assumption); walk_at "my_sub"))
  (k_with "~call ref" => (k_here; (with_reducible show wpAny _ _ (call (Value.ref 289) _) _ _ _); ktf_call (c_idname _ _ _ _ (by walk_at "my_dtd"))))
  (k_with "~call ref" => (k_here; (with_reducible show wpAny _ _ (call (Value.ref 277) _) _ _ _); ktf_call (c_rule _ _ _ _ _ _ _ (by walk_at "my_dtd") (by assumption))))
  (k_with "~call ref" => (k_here; (with_reducible show wpAny _ _ (call (Value.ref 156) _) _ _ _); ktf_call (c_walk _ _ _ _ _ _ (by walk_at "my_tree") (by assumption) (by assumption) (by assumption) (by assumption))))
  (k_with "~call ref" => (k_here; (with_reducible show wpAny _ _ (call (Value.ref 170) _) _ _ _); ktf_call (c_idtable _ _ _ _ _ _ (by walk_at "my_tree") (by walk_at "my_dtd") (by assumption) (by assumption))))
  (k_with "~my_tail" => first | assumption | (refine' List.mem_cons_of_mem _ ?_; walk_at "my_tail") | (refine' List.mem_append_left _ ?_; walk_at "my_tail") | (refine' List.mem_append_right _ ?_; walk_at "my_tail"))
  (k_with "k_mem" => first | exact List.mem_cons_self | ktr_member | (refine' List.mem_cons_of_mem _ ?_; k_mem) | (refine' List.mem_append_right _ ?_; k_mem) | (refine' List.mem_append_left _ ?_; k_mem))
  (k_with "~my_sub" => first | exact fun _ hpz9 => hpz9 | exact List.forall_mem_nil _ | (refine' List.forall_mem_cons.mpr ⟨?_, ?_⟩; k_mem; walk_at "my_sub") | (intro pz9 hpz9; walk_at "my_tail") | (refine' List.forall_mem_append.mpr ⟨?_, ?_⟩; walk_at "my_sub"; walk_at "my_sub"))
  (k_with "~call ref" => (k_here; (with_reducible show wpAny _ _ (call (Value.ref 184) _) _ _ _); ktf_call (c_broken _ _ _ _ _ _ (by walk_at "my_tree") (by walk_at "my_dtd") (by assumption) (by assumption))))
  (k_with "~call ref" => (k_here; (with_reducible show wpAny _ _ (call (Value.ref 177) _) _ _ _); ktf_call (c_refs _ _ _ _ _ _ _ _ (by walk_at "my_tree") (by walk_at "my_dtd") (by assumption) (by assumption) (by assumption) (by assumption) (by assumption))))
  (k_with "~call ref" => (k_here; (with_reducible show wpAny _ _ (call (Value.ref 189) _) _ _ _); ktf_call (c_referring _ _ _ _ _ _ _ _ (by walk_at "my_tree") (by walk_at "my_dtd") (by assumption) (by assumption))))
  (k_with "~my_below" => first | assumption | exact ktn_ltOf (by first | assumption | exact And.right (by assumption) | exact And.right (And.right (by assumption)) | exact And.right (And.right (And.right (by assumption))) | exact And.right (And.right (And.right (And.right (by assumption))))))
  (k_with "~subscriptTail Attribute Name Name ref int" => (k_here; k_dflt (refine' item_at (by exact News.isList (by k_asm) (by k_mem)) (by omega) (by omega) (by exact refs_at (by assumption)) ?_)))
  (k_with "k_room" => ktr_room)
  (k_with "~call ref" => (k_here; (with_reducible show wpAny _ _ (call (Value.ref 360) _) _ _ _); refine stopHere ?_))
  (k_with "~compareOp NotIn str ref" => (k_here; k_dflt (refine' notin_tuple_strs (tupK (by k_in) (by k_is)) (by repeat constructor) ?_)))
  (k_with "~ite" => first | (k_closed; k_dflt (first | refine ite_pos (by decide +kernel) ?_ | refine ite_neg (by decide +kernel) ?_)) | refine ite_neg (by (law_clear; simp only [*, Bool.not_true, Bool.false_eq_true, not_false_eq_true]; done)) ?_)
  trivial
set_option maxHeartbeats 800000 in
theorem c_addel (w : World) (T : TreeS) (nd : Nd) (k : Nat) (tk t1 t2 t3 : Tok) (rest tl : Led) (hT : TreeIn tl T) (hs : TSep T) (hz : TSmall T) (hn : T.nodes[k]? = some nd) (hkd : ([Str.ofString "root", Str.ofString "element"].any fun x => x == nd.kind) = true) (hap : Apart rest tl) :
    Con w 6 388 [.ref T.t, .int ((k : Nat) : Int) tk, .str (Str.ofString "e") t1, .str (Str.ofString "") t2, .str (Str.ofString "e") t3] (rest ++ tl) (fun news' r => ∃ tl' T' t, (TreeIn tl' T' ∧ TSep T' ∧ Apart rest tl' ∧ T'.t = T.t ∧ views T' = (views T).set k { vw nd with kids := (vw nd).kids ++ [T.nodes.length] } ++ [elPN]) ∧ r = .int ((T.nodes.length : Nat) : Int) t ∧ news' = rest ++ tl') := by
  have hmem := List.mem_of_getElem? hn
  have hN := hT.nodes nd hmem
  have hsn := hs.1 nd hmem
  have hz1 := hz.ok
  have hlt := at_lt hn
  have hlen := refVals_len T.nodes
  have hzl := hz.1
  have hkl := (hz.2 nd hmem).1
  unfold Con; k_fill; intro loose mean mg mb dp un gd cn cs a ccd cl outer A₀ base h₀ L m s Q E B F X N Tp hk hdp hun hret
  have r3 : (T.rl, listOf (refVals T.nodes).toArray T.rn) ∈ rest ++ tl := List.mem_append_right _ hT.r
  have c3 : (nd.ck, listOf (intVals nd.kids).toArray nd.z.cn) ∈ rest ++ tl := List.mem_append_right _ hN.k
  have f1 := cut2_inst N r3 c3 (List.mem_append_right rest hT.i)
  have f2 := cut2_dict N r3 c3 (List.mem_append_right rest hT.d)
  have f3 := cut2_inst N r3 c3 (List.mem_append_right rest hN.i)
  have f4 := cut2_dict N r3 c3 (List.mem_append_right rest hN.d)
  have hT2 : TreeIn ((T.rl, listOf (refVals T.nodes).toArray T.rn) :: (nd.ck, listOf (intVals nd.kids).toArray nd.z.cn) :: cut2 T.rl nd.ck (rest ++ tl)) T := hT.mono fun p hp => cut2_sub N r3 c3 p (List.mem_append_right _ hp)
  have hR1 : ∀ p ∈ cut2 T.rl nd.ck (rest ++ tl), p.1 ≠ T.rl := fun p hp => (cut2_mem.mp hp).2.1
  have hR2 : ∀ p ∈ cut2 T.rl nd.ck (rest ++ tl), p.1 ≠ nd.ck := fun p hp => (cut2_mem.mp hp).2.2
  have hrc : @Ne Nat T.rl nd.ck := hsn.1
  have N00 := N
  replace N := cb_drop N (cut2_back r3 c3)
  obtain ⟨R, hRR⟩ : ∃ R, R = cut2 T.rl nd.ck (rest ++ tl) := ⟨_, rfl⟩
  rw [← hRR] at N f1 f2 f3 f4 hT2 hR1 hR2
  walk_at "my_enter"
  k_steps
  unfold StopHere
  ktf_call (c_newrow w T.t T.td T.rl _ _ _ _ _ _ _ _ _ (refVals T.nodes) _ _ _ _ ((nd.ck, listOf (intVals nd.kids).toArray nd.z.cn) :: R) (by k_mem) (by k_mem) (by rw [hlen]; omega) (by walk_at "my_off"))
  rename NodeIn _ _ ∧ _ => hf
  rename List (Addr × Obj) => nw
  rename Nd => new
  have hfr := hf.2.2.1
  have hX : ∀ p ∈ R ++ nw, p.1 ≠ nd.ck := List.forall_mem_append.mpr ⟨hR2, fun p hp => Ne.symm (hfr p hp _ (List.mem_cons_of_mem _ List.mem_cons_self))⟩
  rename News _ _ _ _ => N7
  simp only [List.cons_append] at N7
  k_steps
  (try walk_at "my_fold")
  rename News h₀ L _ _ => NE
  rw [hlen] at NE ⊢
  subst hRR
  obtain ⟨tl', T', b1, b2, b3, b4, b5, b6⟩ := built_end (nd1 := nd.kid (T.nodes.length, _) _) N00 hT hs hn hap hN.k (.inl ⟨rfl, rfl, (intVals_snoc _ _).symm⟩) hf.1 hf.2.2.2 hfr NE
  exact hret _ _ _ _ (by k_asm) b1 ⟨tl', T', _, ⟨b2, b3, b4, b5, by rw [b6, vw_kid, hf.2.1]; rfl⟩, rfl, rfl⟩
end

theorem refs_at0 {T : TreeS} {k : Nat} {nd : Nd} (hn : T.nodes[k]? = some nd) : (refVals T.nodes)[((k : Nat) : Int).toNat]? = some (.ref nd.r) := by
  rw [show ((k : Nat) : Int).toNat = k by omega]; exact refVals_at hn
section
theorem w31 : True := by
  k_with_none
  (k_with "~my_fold" => ((fail_if_success (fail_if_success k_fold)); (refine (let qk := _; (?_ : wpAny _ _ _ qk _ _)))))
  (k_with "~my_state" => ((fail_if_success (fail_if_success (conv => arg 6; pattern PySem.Shared.mk _ _ _ _ _))); (refine (let sk := _; (?_ : wpAny _ _ _ _ _ sk)))))
  (k_with "~my_around" => ((try refine (let vk := _; (?_ : wpAny _ _ (execs _ vk) _ _ _))); (refine (let ak := _; (?_ : wpAny _ ak _ _ _ _)))))
  (k_with "~my_enter" => (refine wpAny_call ?_; k_dflt ktr_enter; (try walk_at "my_around")))
  (k_with "~use2" => (
  (first | (refine post00 ?_; intro h9z9 tk9z9 F9z9 N9z9) | (refine post10 ?_; intro x1z9 h9z9 tk9z9 F9z9 N9z9) | (refine post20 ?_; intro x1z9 x2z9 h9z9 tk9z9 F9z9 N9z9) | (refine post21 ?_; intro x1z9 x2z9 q1z9 h9z9 tk9z9 F9z9 N9z9) | (refine post22 ?_; intro x1z9 x2z9 q1z9 q2z9 h9z9 tk9z9 F9z9 N9z9) | (refine post31 ?_; intro x1z9 x2z9 x3z9 q1z9 h9z9 tk9z9 F9z9 N9z9) | (refine post32 ?_; intro x1z9 x2z9 x3z9 q1z9 q2z9 h9z9 tk9z9 F9z9 N9z9) | (refine post33 ?_; intro x1z9 x2z9 x3z9 q1z9 q2z9 q3z9 h9z9 tk9z9 F9z9 N9z9) | (refine post41 ?_; intro x1z9 x2z9 x3z9 x4z9 q1z9 h9z9 tk9z9 F9z9 N9z9))
  (try walk_at "my_fold")
  (try dsimp only)
  (try k_sweep)
  (try walk_at "my_fold")))
  (k_with "~my_tail" => first | assumption | (refine' List.mem_cons_of_mem _ ?_; walk_at "my_tail"))
  (k_with "~my_sub" => first | exact fun _ hpz9 => hpz9 | exact List.forall_mem_nil _ | (refine' List.forall_mem_cons.mpr ⟨?_, ?_⟩; k_mem; walk_at "my_sub") | (intro pz9 hpz9; walk_at "my_tail"))
  (k_with "k_units" => ktr_units)
  (k_with "k_mem" => first | exact List.mem_cons_self | ktr_member | (refine' List.mem_cons_of_mem _ ?_; k_mem))
  (k_with "~my_and" => first | assumption | (refine And.right ?_; walk_at "my_and"))
  (k_with "~my_fresh" => first | assumption | exact ne_of_lts (by assumption) | exact ne_of_allLt (by first | assumption | exact And.right (by assumption) | exact And.right (And.right (by assumption)) | exact And.right (And.right (And.right (by assumption))) | exact And.right (And.right (And.right (And.right (by assumption)))) | exact And.right (And.right (And.right (And.right (And.right (by assumption))))) | exact And.right (And.right (And.right (And.right (And.right (And.right (by assumption)))))) | exact And.right (And.right (And.right (And.right (And.right (And.right (And.right (by assumption))))))) | exact And.right (And.right (And.right (And.right (And.right (And.right (And.right (And.right (by assumption))))))))))
  (k_with "~my_off" => first | assumption | exact List.forall_mem_nil _ | (refine' List.forall_mem_cons.mpr ⟨?_, ?_⟩; (first | k_ne | exact (by assumption : ∀ pz9 ∈ (_ : Led), pz9.1 ≠ _) _ (by k_mem)); walk_at "my_off") | (intro pz9 hpz9; first | exact (by assumption : ∀ pz9 ∈ (_ : Led), pz9.1 ≠ _) pz9 hpz9 | exact (by assumption : ∀ pz9 ∈ (_ : Led), pz9.1 ≠ _) pz9 (by walk_at "my_tail") | (have h9z9 := ltN ((by assumption : ∀ pz9 ∈ (_ : Led), pz9.1 < _) pz9 hpz9); refine neN ?_; omega)))
  (k_with "k_all" => walk_at "my_off")
  (k_with "~my_lt" => first | assumption | exact And.left (by assumption) | exact And.left (And.right (by assumption)) | exact And.left (And.right (And.right (by assumption))) | exact And.left (And.right (And.right (And.right (by assumption)))) | exact And.left (And.right (And.right (And.right (And.right (by assumption))))) | exact And.left (And.right (And.right (And.right (And.right (And.right (by assumption)))))) | exact And.left (And.right (And.right (And.right (And.right (And.right (And.right (by assumption))))))) | exact And.left (And.right (And.right (And.right (And.right (And.right (And.right (And.right (by assumption)))))))) | exact And.left (And.right (And.right (And.right (And.right (And.right (And.right (And.right (And.right (by assumption))))))))) | exact And.left (And.right (And.right (And.right (And.right (And.right (And.right (And.right (And.right (And.right (by assumption)))))))))) | exact And.left (And.right (And.right (And.right (And.right (And.right (And.right (And.right (And.right (And.right (And.right (by assumption))))))))))) | exact And.left (And.right (And.right (And.right (And.right (And.right (And.right (And.right (And.right (And.right (And.right (And.right (by assumption)))))))))))) | exact And.left (And.right (And.right (And.right (And.right (And.right (And.right (And.right (And.right (And.right (And.right (And.right (And.right (by assumption))))))))))))) | exact And.left (And.right (And.right (And.right (And.right (And.right (And.right (And.right (And.right (And.right (And.right (And.right (And.right (And.right (by assumption)))))))))))))) | exact And.left (And.right (And.right (And.right (And.right (And.right (And.right (And.right (And.right (And.right (And.right (And.right (And.right (And.right (And.right (by assumption))))))))))))))) | exact And.left (And.right (And.right (And.right (And.right (And.right (And.right (And.right (And.right (And.right (And.right (And.right (And.right (And.right (And.right (And.right (by assumption)))))))))))))))))
  (k_with "k_ne" => (refine neN ?_; (try dsimp only); first | assumption | exact Ne.symm (by assumption) | (refine Nat.ne_of_lt ?_; walk_at "my_lt") | (refine Nat.ne_of_gt ?_; walk_at "my_lt") | omega))
  (k_with "~my_for" => (k_here; (rename Fr _ _ _ _ => lF'z9); (with_unfolding_all refine' for_any lF'z9 ?_); (try walk_at "my_fold"); walk_say "MY FOR"))
  (k_with "~my_look" => first | with_reducible assumption | rfl | assumption)
  (k_with "~exec For Name Name cons nil" => walk_at "my_for")
  (k_with "~exec For Name Call cons nil" => walk_at "my_for")
  (k_with "~exec For Name List cons nil" => walk_at "my_for")
  (k_with "~exec For Tuple Name cons nil" => walk_at "my_for")
  (k_with "~exec For Tuple Call cons nil" => walk_at "my_for")
  (k_with "~exec For Name BinOp cons nil" => walk_at "my_for")
  (k_with "~TurnA" => (dsimp only [TurnA]))
  (k_with "~eval ListComp" => (k_here; k_dflt (refine' comp_any (by k_asm) (by with_unfolding_all rfl) (by decide) (by rfl) (by decide) (by decide) ?_); (try k_fold); walk_say "MY COMP"))
  (k_with "~exec Assign cons ListComp" => (k_here; k_dflt (refine' comp_assign (by k_asm) (by rfl) (by with_unfolding_all rfl) (by with_unfolding_all rfl) (by decide) (by rfl) (by decide) (by rfl) (by rfl) (by decide) ?_); (try k_fold); walk_say "MY COMP"))
  (k_with "~TestElt" => (dsimp only [TestElt]; (try k_fold)))
  (k_with "~compareOp In str ref" => (k_here; k_dflt (refine' in_tuple_strs (tupK (by k_in) (by k_is)) (by repeat constructor) ?_)))
  (k_with "~compareOp In str ref" => (k_here; k_dflt (refine' in_tuple_strs (News.isTup (by k_asm) (by k_mem)) (by repeat constructor) ?_)))
  (k_with "~my_strs" => first | exact StrsIn.of _ | exact StrsIn.nil | exact StrsIn.one _ _)
  (k_with "~compareOp Eq ref ref" => (k_here; k_dflt (refine' eq_strs (by k_asm) (by k_mem) (by k_mem) (by walk_at "my_strs") (by walk_at "my_strs") (by k_units) ?_)))
  (k_with "~compareOp NotEq ref ref" => (k_here; k_dflt (refine' ne_strs (by k_asm) (by k_mem) (by k_mem) (by walk_at "my_strs") (by walk_at "my_strs") (by k_units) ?_)))
  (k_with "~my_size" => (simp only [List.size_toArray, strValues, List.length_map, Array.length_toList, List.length_append, List.length_dropLast, List.length_cons, List.length_nil, sizeLine_eq]; omega))
  (k_with "~subscriptTail Name Slice ref ref" => (k_here; (with_reducible show wpAny _ _ (subscriptTail _ (PySem.Expr.Slice none _ none _) (Value.ref _) (Value.ref _)) _ _ _); k_dflt (refine' kms_slice_lit (by k_asm) (by k_asm) (by exact News.isList (by k_asm) (by k_mem)) (by kmk_part) (by kmk_part) (by exact pick_dropLast _) ?_ (by with_unfolding_all rfl) (by kmk_pure) (by walk_at "my_size")); intro D'z9 h'z9 F'z9 N'z9 l1z9; (try k_lt l1z9); (try k_sweep)))
  (k_with "~subscriptTail Name UnaryOp ref int" => (k_here; (with_reducible show wpAny _ _ (subscriptTail _ _ (Value.ref _) (Value.int _ _)) _ _ _); k_dflt (refine' item_last (by exact News.isList (by k_asm) (by k_mem)) (by assumption) ?_)))
  (k_with "~binaryOp Add ref ref" => (k_here; k_dflt (refine' kmk_add_lit (by k_asm) (by k_asm) (by exact News.isList (by k_asm) (by k_mem)) (by exact News.isList (by k_asm) (by k_mem)) (by first | exact add_one _ _ _ | exact add_two _ _) ?_ (by walk_at "my_size")); intro D'z9 h'z9 F'z9 N'z9 l1z9; (try k_lt l1z9); (try k_sweep)))
  (k_with "~call ref" => (k_here; (with_reducible show wpAny _ _ (call (Value.ref 52) _) _ _ _); ktf_call (c_small _ _ _ _)))
  (k_with "~my_signs" => (law_clear; simp only [s_a, s_z, s_A, s_Z, s_0, s_9, lt1, str1_eq, e_us, e_co, e_mi, e_do, smallB_iff, startB_iff, charB_iff, ← decide_not, decide_eq_decide, decide_eq_true_eq, decide_eq_false_iff_not, decide_eq_true_eq, eq_comm (a := true), Bool.not_eq_true, Bool.not_eq_false] at *; omega))
  (k_with "~call ref" => (k_here; (with_reducible show wpAny _ _ (call (Value.ref 59) _) _ _ _); ktf_call (c_start _ _ _ _ (by assumption))))
  (k_with "~call ref" => (k_here; (with_reducible show wpAny _ _ (call (Value.ref 66) _) _ _ _); ktf_call (c_char _ _ _ _ (by assumption))))
  (k_with "~call ref" => (k_here; (with_reducible show wpAny _ _ (call (Value.ref 73) _) _ _ _); ktf_call (c_nmtoken _ _ _ _ (by assumption))))
  (k_with "~call ref" => (k_here; (with_reducible show wpAny _ _ (call (Value.ref 80) _) _ _ _); ktf_call (c_name _ _ _ _ (by assumption))))
  (k_with "~call ref" => (k_here; (with_reducible show wpAny _ _ (call (Value.ref 121) _) _ _ _); ktf_call (c_blank _ _ _ _ (by assumption))))
  (k_with "~call ref" => (k_here; (with_reducible show wpAny _ _ (call (Value.ref 128) _) _ _ _); ktf_call (c_norm _ _ _ _ _ _ (by assumption))))
  (k_with "~call ref" => (k_here; (with_reducible show wpAny _ _ (call (Value.ref 135) _) _ _ _); ktf_call (c_words _ _ _ _ _ _ (by assumption))))
  (k_with "~call ref" => (k_here; (with_reducible show wpAny _ _ (call (Value.ref 142) _) _ _ _); ktf_call (c_isword _ _ _ _ _ _ (by assumption))))
  (k_with "~call ref" => (k_here; (with_reducible show wpAny _ _ (call (Value.ref 149) _) _ _ _); ktf_call (c_fits _ _ _ _ _ _ _ _ _ _ _ _ _ _ _ _ _ _ _ _ (by assumption) (by assumption) (by k_mem) (by k_mem) (by k_mem) (by assumption))))
  (k_with "~call ref" => (k_here; (with_reducible show wpAny _ _ (call (Value.ref 566) _) _ _ _); ktf_call (c_lawword _ _ _ _ _ (by assumption) (by assumption))))
  (k_with "~call ref" => (k_here; (with_reducible show wpAny _ _ (call (Value.ref 561) _) _ _ _); ktf_call (c_parted _ _ _ _ (by assumption) (by assumption))))
  (k_with "~call builtin:len" => (k_here; (with_reducible show wpAny _ _ (call (Value.builtin _) [Value.ref _]) _ _ _); k_dflt (refine' len_at (by exact News.isList (by k_asm) (by k_mem)) (by first | omega | ((simp only [List.length_cons, List.length_nil, List.length_append, List.length_map, strValues]); omega)) ?_)))
  (k_with "~my_pick" => first | exact Pick.head | (refine' Pick.tail (by walk_at "my_pick")))
  (k_with "~call ref" => (k_here; (with_reducible show wpAny _ _ (call (Value.ref 542) _) _ _ _); ktr_call (c_take _ _ _ _ _ _ (by assumption) (by first | assumption | decide) (by first | assumption | decide) (by walk_at "my_off")) ()))
  (k_with "~call ref" => (k_here; (with_reducible show wpAny _ _ (call (Value.ref 549) _) _ _ _); ktr_call (c_one _ _ _ _ _ _ _ (by assumption) (by k_mem) (by first | assumption | exact Nat.le_of_ble_eq_true rfl) (by first | assumption | exact Nat.le_of_ble_eq_true rfl) (by walk_at "my_off")) ()))
  (k_with "~call ref" => (k_here; (with_reducible show wpAny _ _ (call (Value.ref 554) _) _ _ _); ktr_call (c_value _ _ _ _ (by assumption) (by walk_at "my_off")) ()))
  (k_with "~call ref" => (k_here; (with_reducible show wpAny _ _ (call (Value.ref 571) _) _ _ _); ktf_call (c_kind _ _ _ _ _ _ (by first | assumption | decide +kernel) (by k_asm))))
  (k_with "~my_tree" => first | assumption | (refine TreeIn.mono ?_ (by assumption); walk_at "my_sub"))
  (k_with "~call ref" => (k_here; (with_reducible show wpAny _ _ (call (Value.ref 367) _) _ _ _); ktf_call (c_row _ _ _ _ _ _ (by walk_at "my_tree") (by assumption) (by assumption))))
  (k_with "~call ref" => (k_here; (with_reducible show wpAny _ _ (call (Value.ref 444) _) _ _ _); ktf_call (c_tkind _ _ _ _ _ _ (by walk_at "my_tree") (by assumption) (by assumption))))
  (k_with "~call ref" => (k_here; (with_reducible show wpAny _ _ (call (Value.ref 451) _) _ _ _); ktf_call (c_tname _ _ _ _ _ _ (by walk_at "my_tree") (by assumption) (by assumption))))
  (k_with "~call ref" => (k_here; (with_reducible show wpAny _ _ (call (Value.ref 472) _) _ _ _); ktf_call (c_tvalue _ _ _ _ _ _ (by walk_at "my_tree") (by assumption) (by assumption))))
  (k_with "~call ref" => (k_here; (with_reducible show wpAny _ _ (call (Value.ref 486) _) _ _ _); ktf_call (c_children _ _ _ _ _ _ (by walk_at "my_tree") (by assumption) (by assumption))))
  (k_with "~call ref" => (k_here; (with_reducible show wpAny _ _ (call (Value.ref 493) _) _ _ _); ktf_call (c_attributes _ _ _ _ _ _ (by walk_at "my_tree") (by assumption) (by assumption))))
  (k_with "~call ref" => (k_here; (with_reducible show wpAny _ _ (call (Value.ref 451) _) _ _ _); ktf_call (c_tnameX _ _ _ _ _ _ _ (by walk_at "my_tree") (by assumption) (by assumption) (by first | assumption | exact rfl))))
  (k_with "k_ne" => (refine neN ?_; (try dsimp only); first | assumption | exact Ne.symm (by assumption) | (refine Nat.ne_of_lt ?_; walk_at "my_lt") | (refine Nat.ne_of_gt ?_; walk_at "my_lt") | omega | exact ne_of_mem (by assumption) (by k_mem) | exact Ne.symm (ne_of_mem (by assumption) (by k_mem))))
  (k_with "~exec While Compare cons nil" => (k_here; (rename Fr _ _ _ _ => lF'z9); (with_unfolding_all refine' while_any lF'z9 ?_); walk_say "MY WHILE"))
  (k_with "~my_ints" => first | exact IntsIn.of _ | exact IntsIn.nil | exact IntsIn.snoc _ _ _)
  (k_with "~compareOp Eq ref ref" => (k_here; k_dflt (refine' eq_ints (by k_asm) (by k_mem) (by k_mem) (by walk_at "my_ints") (by walk_at "my_ints") (by k_units) ?_)))
  (k_with "~compareOp NotEq ref ref" => (k_here; k_dflt (refine' ne_ints (by k_asm) (by k_mem) (by k_mem) (by walk_at "my_ints") (by walk_at "my_ints") (by k_units) ?_)))
  (k_with "~my_size" => (simp only [List.size_toArray, strValues, intVals, refVals, List.length_map, Array.length_toList, List.length_append, List.length_reverse, List.length_dropLast, List.length_cons, List.length_nil, sizeLine_eq]; omega))
  (k_with "~call builtin:list.append" => (k_here; (with_reducible show wpAny _ _ (call (Value.builtin _) [Value.ref _, _]) _ _ _); k_dflt (refine' append_my (by k_asm) (by k_asm) (by k_upd) (by walk_at "my_size") ?_); intro h'z9 F'z9 N'z9; (try k_sweep)))
  (k_with "~call builtin:list.pop" => (k_here; (with_reducible show wpAny _ _ (call (Value.builtin _) [Value.ref _]) _ _ _); k_dflt (refine' pop_my (by k_asm) (by k_asm) (by k_upd) (by walk_at "my_size") ?_); intro h'z9 F'z9 N'z9; (try k_sweep)))
  (k_with "~call builtin:list.extend" => (k_here; (with_reducible show wpAny _ _ (call (Value.builtin _) [Value.ref _, Value.ref _]) _ _ _); k_dflt (refine' extend_my (by k_asm) (by k_asm) (by k_mem) (by (intro k8z9; k_upd)) (by walk_at "my_size") ?_); intro k9z9 h'z9 F'z9 N'z9; (try dsimp only at N'z9); (try k_sweep)))
  (k_with "~subscriptTail Name Slice ref ref" => (k_here; (with_reducible show wpAny _ _ (subscriptTail _ (PySem.Expr.Slice none none (some _) _) (Value.ref _) (Value.ref _)) _ _ _); k_dflt (refine' rev_my (by k_asm) (by k_asm) (by exact News.isList (by k_asm) (by k_mem)) (by exact IsPart.int _ _) (by with_unfolding_all rfl) (by kmk_pure) (by walk_at "my_size") ?_); intro D'z9 h'z9 F'z9 N'z9 l1z9; (try k_lt l1z9); (try k_sweep)))
  (k_with "~my_dtd" => first | assumption | (refine DtdIn.mono ?_ (by assumption); walk_at "my_sub"))
  (k_with "~call ref" => (k_here; (with_reducible show wpAny _ _ (call (Value.ref 289) _) _ _ _); ktf_call (c_idname _ _ _ _ (by walk_at "my_dtd"))))
  (k_with "~call ref" => (k_here; (with_reducible show wpAny _ _ (call (Value.ref 277) _) _ _ _); ktf_call (c_rule _ _ _ _ _ _ _ (by walk_at "my_dtd") (by assumption))))
  (k_with "~call ref" => (k_here; (with_reducible show wpAny _ _ (call (Value.ref 156) _) _ _ _); ktf_call (c_walk _ _ _ _ _ _ (by walk_at "my_tree") (by assumption) (by assumption) (by assumption) (by assumption))))
  (k_with "~call ref" => (k_here; (with_reducible show wpAny _ _ (call (Value.ref 170) _) _ _ _); ktf_call (c_idtable _ _ _ _ _ _ (by walk_at "my_tree") (by walk_at "my_dtd") (by assumption) (by assumption))))
  (k_with "~my_tail" => first | assumption | (refine' List.mem_cons_of_mem _ ?_; walk_at "my_tail") | (refine' List.mem_append_left _ ?_; walk_at "my_tail") | (refine' List.mem_append_right _ ?_; walk_at "my_tail"))
  (k_with "k_mem" => first | exact List.mem_cons_self | ktr_member | (refine' List.mem_cons_of_mem _ ?_; k_mem) | (refine' List.mem_append_right _ ?_; k_mem) | (refine' List.mem_append_left _ ?_; k_mem))
  (k_with "~my_sub" => first | exact fun _ hpz9 => hpz9 | exact List.forall_mem_nil _ | (refine' List.forall_mem_cons.mpr ⟨?_, ?_⟩; k_mem; walk_at "my_sub") | (intro pz9 hpz9; walk_at "my_tail") | (refine' List.forall_mem_append.mpr ⟨?_, ?_⟩; walk_at "my_sub"; walk_at "my_sub"))
  (k_with "~call ref" => (k_here; (with_reducible show wpAny _ _ (call (Value.ref 184) _) _ _ _); ktf_call (c_broken _ _ _ _ _ _ (by walk_at "my_tree") (by walk_at "my_dtd") (by assumption) (by assumption))))
  (k_with "~call ref" => (k_here; (with_reducible show wpAny _ _ (call (Value.ref 177) _) _ _ _); ktf_call (c_refs _ _ _ _ _ _ _ _ (by walk_at "my_tree") (by walk_at "my_dtd") (by assumption) (by assumption) (by assumption) (by assumption) (by assumption))))
  (k_with "~call ref" => (k_here; (with_reducible show wpAny _ _ (call (Value.ref 189) _) _ _ _); ktf_call (c_referring _ _ _ _ _ _ _ _ (by walk_at "my_tree") (by walk_at "my_dtd") (by assumption) (by assumption))))
  (k_with "~my_below" => first | assumption | exact ktn_ltOf (by first | assumption | exact And.right (by assumption) | exact And.right (And.right (by assumption)) | exact And.right (And.right (And.right (by assumption))) | exact And.right (And.right (And.right (And.right (by assumption))))))
  (k_with "~exec For Name Attribute cons nil" => walk_at "my_for")
  (k_with "k_room" => ktr_room)
  (k_with "~call ref" => (k_here; (with_reducible show wpAny _ _ (call (Value.ref 360) _) _ _ _); refine stopHere ?_))
  (k_with "~my_dummy" => skip)
  (k_with "~subscriptTail Attribute Name Name ref int" => (k_here; k_dflt (refine' item_at (by exact News.isList (by k_asm) (by k_mem)) (by omega) (by omega) (by exact refs_at0 (by assumption)) ?_)))
  (k_with "~ite" => first | (k_closed; k_dflt (first | refine ite_pos (by decide +kernel) ?_ | refine ite_neg (by decide +kernel) ?_)) | refine ite_neg (Bool.eq_false_iff.mp (by assumption)) ?_)
  trivial
set_option maxHeartbeats 1600000 in
theorem c_setattr (w : World) (T : TreeS) (nd : Nd) (k : Nat) (nm val : Str) (tk t1 t2 t3 t4 : Tok) (rest tl : Led) (hT : TreeIn tl T) (hs : TSep T) (hz : TSmall T) (hn : T.nodes[k]? = some nd) (hkd : nd.kind = Str.ofString "element") (hap : Apart rest tl) (hfree : ∀ p ∈ nd.attrs, ∃ an, T.nodes[p.1]? = some an ∧ an.name ≠ nm) :
    Con w 6 423 [.ref T.t, .int ((k : Nat) : Int) tk, .str nm t1, .str (Str.ofString "") t2, .str nm t3, .str val t4] (rest ++ tl) (fun news' r => ∃ tl' T' t, (TreeIn tl' T' ∧ TSep T' ∧ Apart rest tl' ∧ T'.t = T.t ∧ views T' = (views T).set k { vw nd with attrs := (vw nd).attrs ++ [T.nodes.length] } ++ [⟨Str.ofString "attribute", nm, val, [], []⟩]) ∧ r = .int ((T.nodes.length : Nat) : Int) t ∧ news' = rest ++ tl') := by
  have hmem := List.mem_of_getElem? hn
  have hN := hT.nodes nd hmem
  have hsn := hs.1 nd hmem
  have hz1 := hz.ok
  have hlt := at_lt hn
  have hlen := refVals_len T.nodes
  have hzl := hz.1
  have hal := (hz.2 nd hmem).2.1
  unfold Con; k_fill; intro loose mean mg mb dp un gd cn cs a ccd cl outer A₀ base h₀ L m s Q E B F X N Tp hk hdp hun hret
  have r3 : (T.rl, listOf (refVals T.nodes).toArray T.rn) ∈ rest ++ tl := List.mem_append_right _ hT.r
  have c3 : (nd.ak, listOf (intVals nd.attrs).toArray nd.z.an) ∈ rest ++ tl := List.mem_append_right _ hN.a
  have f1 := cut2_inst N r3 c3 (List.mem_append_right rest hT.i)
  have f2 := cut2_dict N r3 c3 (List.mem_append_right rest hT.d)
  have f3 := cut2_inst N r3 c3 (List.mem_append_right rest hN.i)
  have f4 := cut2_dict N r3 c3 (List.mem_append_right rest hN.d)
  have hT2 : TreeIn ((T.rl, listOf (refVals T.nodes).toArray T.rn) :: (nd.ak, listOf (intVals nd.attrs).toArray nd.z.an) :: cut2 T.rl nd.ak (rest ++ tl)) T := hT.mono fun p hp => cut2_sub N r3 c3 p (List.mem_append_right _ hp)
  have hR1 : ∀ p ∈ cut2 T.rl nd.ak (rest ++ tl), p.1 ≠ T.rl := fun p hp => (cut2_mem.mp hp).2.1
  have hR2 : ∀ p ∈ cut2 T.rl nd.ak (rest ++ tl), p.1 ≠ nd.ak := fun p hp => (cut2_mem.mp hp).2.2
  have hrc : @Ne Nat T.rl nd.ak := hsn.2.1
  have N00 := N
  replace N := cb_drop N (cut2_back r3 c3)
  obtain ⟨R, hRR⟩ : ∃ R, R = cut2 T.rl nd.ak (rest ++ tl) := ⟨_, rfl⟩
  rw [← hRR] at N f1 f2 f3 f4 hT2 hR1 hR2
  rw [hkd] at f4
  walk_at "my_enter"
  k_steps
  (try walk_at "my_fold")
  refine iter_list (fun m₀ n₀ i K => ∀ m₁, m₁ (Str.ofString "self") = some (.ref T.t) → (∃ t, m₁ (Str.ofString "element") = some (.int ((k : Nat) : Int) t)) → (∃ t, m₁ (Str.ofString "name") = some (.str nm t)) → (∃ t, m₁ (Str.ofString "uri") = some (.str (Str.ofString "") t)) → (∃ t, m₁ (Str.ofString "local") = some (.str nm t)) → (∃ t, m₁ (Str.ofString "value") = some (.str val t)) → m₁ (Str.ofString "row") = some (.ref nd.r) → K m₁ n₀)
    rfl (by k_asm) (by k_asm) (.inr ⟨_, by k_mem, rfl, _, rfl⟩) (fun K k => k _ (by rfl) ⟨_, by rfl⟩ ⟨_, by rfl⟩ ⟨_, by rfl⟩ ⟨_, by rfl⟩ ⟨_, by rfl⟩ (by rfl)) ?_ ?_
  · intro I i v hv
    intro m₁ hm1 hm2 hm3 hm4' hm5' hm6 hm7 oI h tk S off F₁ N₁
    (try walk_at "my_fold")
    obtain ⟨p, hp, rfl⟩ := intAtL (by simpa using hv)
    obtain ⟨an, han, hann⟩ := hfree p (List.mem_of_getElem? hp)
    have hA := hT.nodes an (List.mem_of_getElem? han)
    have f5 := cut2_inst N00 r3 c3 (List.mem_append_right rest hA.i)
    have f6 := cut2_dict N00 r3 c3 (List.mem_append_right rest hA.d)
    rw [← hRR] at f5 f6
    have hnb : (an.name == nm) = false := by simpa using hann
    have halt := at_lt han
    obtain ⟨t4', hm4⟩ := hm4'
    obtain ⟨t5', hm5⟩ := hm5'
    k_steps
    exact TE.intro (by k_asm) (by k_asm) (by walk_at "my_sub") off S (fun K k => k _ (by exact hm1) (by exact hm2) (by exact hm3) ⟨_, by exact hm4⟩ ⟨_, by exact hm5⟩ (by exact hm6) (by exact hm7))
  · intro m₁ hm1 hm2' hm3' hm4' hm5' hm6' hm7 h tk F₁ N₁
    refine Exists.elim hm2' fun t2' hm2 => Exists.elim hm3' fun t3' hm3 => Exists.elim hm4' fun t4' hm4 => Exists.elim hm5' fun t5' hm5 => Exists.elim hm6' fun t6' hm6 => ?_
    k_steps
    unfold StopHere
    ktf_call (c_newrow w T.t T.td T.rl _ _ _ _ _ _ _ _ _ (refVals T.nodes) _ _ _ _ ((nd.ak, listOf (intVals nd.attrs).toArray nd.z.an) :: R) (by k_mem) (by k_mem) (by rw [hlen]; omega) (by walk_at "my_off"))
    rename NodeIn _ _ ∧ _ => hf
    rename List (Addr × Obj) => nw
    rename Nd => new
    have hfr := hf.2.2.1
    have hX : ∀ p ∈ R ++ nw, p.1 ≠ nd.ak := List.forall_mem_append.mpr ⟨hR2, fun p hp => Ne.symm (hfr p hp _ (List.mem_cons_of_mem _ List.mem_cons_self))⟩
    rename News _ _ _ _ => N7
    simp only [List.cons_append] at N7
    k_steps
    (try walk_at "my_fold")
    rename News h₀ L _ _ => NE
    rw [hlen] at NE ⊢
    subst hRR
    obtain ⟨tl', T', b1, b2, b3, b4, b5, b6⟩ := built_end (nd1 := nd.att (T.nodes.length, _) _) N00 hT hs hn hap hN.a (.inr ⟨rfl, rfl, (intVals_snoc _ _).symm⟩) hf.1 hf.2.2.2 hfr NE
    exact hret _ _ _ _ (by k_asm) b1 ⟨tl', T', _, ⟨b2, b3, b4, b5, by rw [b6, vw_att, hf.2.1]⟩, rfl, rfl⟩
end

-- THE SHAPE OF THE TREE THAT IS BUILT, in plain data
def kidsTail : List (Nat × Bool) → List Nat
  | (k, false) :: _ => [k]
  | _ => []
structure BldV (V : List PN) (es : List El) (us : List (Nat × Bool)) : Prop where
  ids : es.map (·.id) = us.map (·.1)
  nodup : (us.map (·.1)).Nodup
  root : ∃ pn, V[0]? = some pn ∧ pn.kind = Str.ofString "root" ∧ pn.kids = (us.take 1).map (·.1)
  els : ∀ e ∈ es, (∃ pn, V[e.id]? = some pn ∧ pn.kind = Str.ofString "element" ∧ pn.name = Str.ofString "e" ∧ pn.attrs = e.ats.map (·.1)) ∧ NamesOk e.ats ∧ ∀ q ∈ e.ats, ∃ an, V[q.1]? = some an ∧ an.kind = Str.ofString "attribute" ∧ an.name = q.2.1 ∧ an.val = q.2.2
  first : ∀ k b r, us = (k, b) :: r → (∃ pn, V[k]? = some pn ∧ pn.kids = (r.filter (·.2)).map (·.1)) ∧ ∀ k' b' r', r = (k', b') :: r' → b' = true
  rest : ∀ p0 pre k b post, us = p0 :: (pre ++ (k, b) :: post) → ∃ pn, V[k]? = some pn ∧ pn.kids = kidsTail post
theorem set_at {V : List PN} {kp : Nat} {pp : PN} {v1 new : PN} (h : V[kp]? = some pp) : (V.set kp v1 ++ [new])[kp]? = some v1 := by
  have hk := (List.getElem?_eq_some_iff.mp h).1
  rw [List.getElem?_append_left (by simpa using hk), List.getElem?_set_self hk]
theorem set_ne {V : List PN} {kp k : Nat} {v1 new pn : PN} (h : V[k]? = some pn) (hne : k ≠ kp) : (V.set kp v1 ++ [new])[k]? = some pn := by
  have hk := (List.getElem?_eq_some_iff.mp h).1
  rw [List.getElem?_append_left (by simpa using hk), List.getElem?_set_ne (Ne.symm hne), h]
theorem set_new {V : List PN} {kp : Nat} {v1 new : PN} : (V.set kp v1 ++ [new])[V.length]? = some new := by
  rw [List.getElem?_append_right (by simp)]; simp
theorem kind_re : Str.ofString "root" ≠ Str.ofString "element" := by decide +kernel
theorem kind_ra : Str.ofString "root" ≠ Str.ofString "attribute" := by decide +kernel
theorem kind_ea : Str.ofString "element" ≠ Str.ofString "attribute" := by decide +kernel
section
variable {V : List PN} {es : List El} {us : List (Nat × Bool)}
theorem BldV.lt (h : BldV V es us) {e : El} (he : e ∈ es) : e.id < V.length := by
  obtain ⟨⟨pn, h1, _⟩, _⟩ := h.els e he
  exact (List.getElem?_eq_some_iff.mp h1).1
theorem BldV.id_of (h : BldV V es us) {p : Nat × Bool} (hp : p ∈ us) : ∃ e ∈ es, e.id = p.1 := by
  have : p.1 ∈ us.map (·.1) := List.mem_map_of_mem hp
  rw [← h.ids] at this
  obtain ⟨e, he, h2⟩ := List.mem_map.mp this
  exact ⟨e, he, h2⟩
/-- the elements and their attributes, behind a node beneath a parent that is no attribute -/
theorem BldV.els' (h : BldV V es us) {kp : Nat} {pp new : PN} {b : Nat} (hp : V[kp]? = some pp) (hpk : pp.kind ≠ Str.ofString "attribute") (hn : new.kind = Str.ofString "element" ∧ new.name = Str.ofString "e" ∧ new.attrs = []) :
    ∀ e ∈ es ++ [⟨V.length, []⟩], (∃ pn, (V.set kp { pp with kids := pp.kids ++ [b] } ++ [new])[e.id]? = some pn ∧ pn.kind = Str.ofString "element" ∧ pn.name = Str.ofString "e" ∧ pn.attrs = e.ats.map (·.1)) ∧ NamesOk e.ats ∧ ∀ q ∈ e.ats, ∃ an, (V.set kp { pp with kids := pp.kids ++ [b] } ++ [new])[q.1]? = some an ∧ an.kind = Str.ofString "attribute" ∧ an.name = q.2.1 ∧ an.val = q.2.2 := by
  intro e he
  rcases List.mem_append.mp he with he | he
  · obtain ⟨⟨pn, h1, h2, h3, h4⟩, h5, h6⟩ := h.els e he
    refine ⟨?_, h5, fun q hq => ?_⟩
    · by_cases hk : e.id = kp
      · rw [hk] at h1 ⊢
        rw [hp] at h1; cases h1
        exact ⟨_, set_at hp, h2, h3, h4⟩
      · exact ⟨pn, set_ne h1 hk, h2, h3, h4⟩
    · obtain ⟨an, g1, g2, g3, g4⟩ := h6 q hq
      refine ⟨an, set_ne g1 ?_, g2, g3, g4⟩
      intro hk; rw [hk, hp] at g1; cases g1; exact hpk g2
  · rw [List.mem_singleton.mp he]
    exact ⟨⟨new, set_new, hn.1, hn.2.1, hn.2.2⟩, fun q hq => (nomatch hq), fun q hq => nomatch hq⟩
theorem nodup_snoc {l : List Nat} {n : Nat} (h : l.Nodup) (hn : ∀ x ∈ l, x < n) : (l ++ [n]).Nodup := by
  rw [List.nodup_append]
  exact ⟨h, by simp, fun a ha b hb e => by rw [List.mem_singleton.mp hb] at e; have := hn a ha; omega⟩
theorem BldV.ids_lt (h : BldV V es us) : ∀ x ∈ us.map (·.1), x < V.length := by
  intro x hx
  rw [← h.ids] at hx
  obtain ⟨e, he, rfl⟩ := List.mem_map.mp hx
  exact h.lt he
theorem snoc_cases {α : Type} {l pre post : List α} {x y p0 : α} (h : l ++ [x] = p0 :: (pre ++ y :: post)) : (post = [] ∧ y = x ∧ l = p0 :: pre) ∨ (l = [] ∧ False) ∨ ∃ post0, post = post0 ++ [x] ∧ l = p0 :: (pre ++ y :: post0) := by
  rcases List.eq_nil_or_concat post with rfl | ⟨post0, z, rfl⟩
  · left
    have : l ++ [x] = (p0 :: pre) ++ [y] := by simpa using h
    obtain ⟨h1, h2⟩ := List.append_inj' this rfl
    exact ⟨rfl, by simpa using h2.symm, h1⟩
  · right; right
    have : l ++ [x] = (p0 :: (pre ++ y :: post0)) ++ [z] := by simpa using h
    obtain ⟨h1, h2⟩ := List.append_inj' this rfl
    exact ⟨post0, by simpa using h2.symm, h1⟩
theorem BldV.addRoot (h : BldV V es us) (hu : us = []) {pp new : PN} (hp : V[0]? = some pp) (hn : new.kind = Str.ofString "element" ∧ new.name = Str.ofString "e" ∧ new.attrs = []) (hk : new.kids = []) :
    BldV (V.set 0 { pp with kids := pp.kids ++ [V.length] } ++ [new]) (es ++ [⟨V.length, []⟩]) (us ++ [(V.length, true)]) := by
  obtain ⟨rt, hr1, hr2, hr3⟩ := h.root
  rw [hp] at hr1; cases hr1
  have hlen : 0 < V.length := (List.getElem?_eq_some_iff.mp hp).1
  subst hu
  refine ⟨by simp [h.ids], by simp, ⟨_, set_at hp, hr2, by simp [hr3]⟩, h.els' hp (by rw [hr2]; exact kind_ra) hn, ?_, ?_⟩
  · intro k b r e
    simp at e
    obtain ⟨⟨rfl, rfl⟩, rfl⟩ := e
    exact ⟨⟨new, set_new, by simp [hk]⟩, fun k' b' r' e => nomatch e⟩
  · intro p0 pre k b post e
    have := congrArg List.length e
    simp at this
theorem BldV.addUp (h : BldV V es us) {k0 : Nat} {b0 : Bool} {r0 : List (Nat × Bool)} (hu : us = (k0, b0) :: r0) {pp new : PN} (hp : V[k0]? = some pp) (hn : new.kind = Str.ofString "element" ∧ new.name = Str.ofString "e" ∧ new.attrs = []) (hk : new.kids = []) :
    BldV (V.set k0 { pp with kids := pp.kids ++ [V.length] } ++ [new]) (es ++ [⟨V.length, []⟩]) (us ++ [(V.length, true)]) := by
  obtain ⟨rt, hr1, hr2, hr3⟩ := h.root
  obtain ⟨⟨pf, hf1, hf2⟩, hf3⟩ := h.first _ _ _ hu
  rw [hp] at hf1; cases hf1
  obtain ⟨e0, he0, hi0⟩ := h.id_of (p := (k0, b0)) (by rw [hu]; exact List.mem_cons_self)
  obtain ⟨⟨pe, g1, g2, _⟩, _⟩ := h.els e0 he0
  have hi0' : e0.id = k0 := hi0
  rw [hi0', hp] at g1; cases g1
  have h0 : (0 : Nat) ≠ k0 := fun e => by rw [← e, hr1] at hp; cases hp; exact kind_re (hr2.symm.trans g2)
  have hnd := h.nodup
  rw [hu, List.map_cons, List.nodup_cons] at hnd
  refine ⟨by simp [h.ids], by rw [List.map_append]; exact nodup_snoc h.nodup h.ids_lt, ⟨rt, set_ne hr1 h0, hr2, by rw [hr3, hu]; simp⟩, h.els' hp (by rw [g2]; exact kind_ea) hn, ?_, ?_⟩
  · intro k b r e
    rw [hu, List.cons_append, List.cons.injEq] at e
    obtain ⟨e1, rfl⟩ := e
    cases e1
    refine ⟨⟨_, set_at hp, by simp [hf2]⟩, fun k' b' r' e => ?_⟩
    cases r0 with
    | nil => simp at e; exact e.1.2
    | cons q r0 => rw [List.cons_append, List.cons.injEq] at e; exact hf3 k' b' r0 (by rw [e.1])
  · intro p0 pre k b post e
    rcases snoc_cases e with ⟨rfl, e1, e2⟩ | ⟨_, f⟩ | ⟨post0, rfl, e2⟩
    · cases e1; exact ⟨new, set_new, by rw [hk]; rfl⟩
    · exact f.elim
    · obtain ⟨pn, q1, q2⟩ := h.rest p0 pre k b post0 e2
      have hkk : k ≠ k0 := by
        rw [hu, List.cons.injEq] at e2
        rintro rfl
        exact hnd.1 (by rw [e2.2]; simp)
      refine ⟨pn, set_ne q1 hkk, ?_⟩
      rw [q2]
      cases post0 with
      | nil => rfl
      | cons x xs => obtain ⟨x1, x2⟩ := x; cases x2 <;> rfl
theorem BldV.addLast (h : BldV V es us) {p0 : Nat × Bool} {pre : List (Nat × Bool)} {kl : Nat} {bl : Bool} (hu : us = p0 :: (pre ++ [(kl, bl)])) {pp new : PN} (hp : V[kl]? = some pp) (hn : new.kind = Str.ofString "element" ∧ new.name = Str.ofString "e" ∧ new.attrs = []) (hk : new.kids = []) :
    BldV (V.set kl { pp with kids := pp.kids ++ [V.length] } ++ [new]) (es ++ [⟨V.length, []⟩]) (us ++ [(V.length, false)]) := by
  obtain ⟨rt, hr1, hr2, hr3⟩ := h.root
  obtain ⟨pl, hl1, hl2⟩ := h.rest p0 pre kl bl [] hu
  rw [hp] at hl1; cases hl1
  obtain ⟨e0, he0, hi0⟩ := h.id_of (p := (kl, bl)) (by rw [hu]; simp)
  obtain ⟨⟨pe, g1, g2, _⟩, _⟩ := h.els e0 he0
  have hi0' : e0.id = kl := hi0
  rw [hi0', hp] at g1; cases g1
  have h0 : (0 : Nat) ≠ kl := fun e => by rw [← e, hr1] at hp; cases hp; exact kind_re (hr2.symm.trans g2)
  have hnd := h.nodup
  rw [hu, List.map_cons, List.nodup_cons, List.map_append, List.nodup_append] at hnd
  refine ⟨by simp [h.ids], by rw [List.map_append]; exact nodup_snoc h.nodup h.ids_lt, ⟨rt, set_ne hr1 h0, hr2, by rw [hr3, hu]; simp⟩, h.els' hp (by rw [g2]; exact kind_ea) hn, ?_, ?_⟩
  · intro k b r e
    rw [hu, List.cons_append, List.cons.injEq] at e
    obtain ⟨e1, rfl⟩ := e
    obtain ⟨⟨pf, hf1, hf2⟩, hf3⟩ := h.first k b (pre ++ [(kl, bl)]) (by rw [hu, e1])
    have hkk : k ≠ kl := by rintro rfl; exact hnd.1 (by rw [e1]; simp)
    refine ⟨⟨pf, set_ne hf1 hkk, by rw [hf2, List.filter_append (pre ++ [(kl, bl)])]; simp⟩, fun k' b' r' e => ?_⟩
    cases pre with
    | nil => simp at e; exact hf3 k' b' [] (by simp [e.1.1, e.1.2])
    | cons q pre => simp only [List.cons_append, List.cons.injEq] at e; exact hf3 k' b' _ (by rw [List.cons_append, e.1])
  · intro q0 qre k b post e
    rcases snoc_cases e with ⟨rfl, e1, e2⟩ | ⟨_, f⟩ | ⟨post0, rfl, e2⟩
    · cases e1; exact ⟨new, set_new, by rw [hk]; rfl⟩
    · exact f.elim
    · cases post0 with
      | nil =>
        rw [hu, List.cons.injEq] at e2
        obtain ⟨_, e3⟩ := List.append_inj' e2.2 rfl
        simp at e3
        obtain ⟨rfl, rfl⟩ := e3
        exact ⟨_, set_at hp, by rw [hl2]; rfl⟩
      | cons x xs =>
        obtain ⟨pn, q1, q2⟩ := h.rest q0 qre k b (x :: xs) e2
        have hkk : k ≠ kl := by
          rintro rfl
          rw [hu, List.cons.injEq] at e2
          have e3 : pre ++ [(k, bl)] = (qre ++ (k, b) :: (x :: xs).dropLast) ++ [(x :: xs).getLast (by simp)] := by
            rw [e2.2, List.append_assoc, List.cons_append, List.dropLast_concat_getLast]
          obtain ⟨e4, _⟩ := List.append_inj' e3 rfl
          exact hnd.2.2.2 k (by rw [e4]; simp) k (by simp) rfl
        refine ⟨pn, set_ne q1 hkk, ?_⟩
        rw [q2]
        obtain ⟨x1, x2⟩ := x; cases x2 <;> rfl
theorem BldV.addAttr {k : Nat} {ats : List (Nat × Str × Str)} (h : BldV V (es ++ [⟨k, ats⟩]) us) {pp new : PN} {nm v : Str} (hp : V[k]? = some pp) (hn : new.kind = Str.ofString "attribute" ∧ new.name = nm ∧ new.val = v) (hnm : nm = Str.ofString "i" ∨ nm = Str.ofString "r" ∨ nm = Str.ofString "s") :
    BldV (V.set k { pp with attrs := pp.attrs ++ [V.length] } ++ [new]) (es ++ [⟨k, ats ++ [(V.length, nm, v)]⟩]) us := by
  obtain ⟨rt, hr1, hr2, hr3⟩ := h.root
  obtain ⟨⟨pe, g1, g2, g3, g4⟩, g5, g6⟩ := h.els ⟨k, ats⟩ (by simp)
  rw [hp] at g1; cases g1
  have h0 : (0 : Nat) ≠ k := fun e => by rw [← e, hr1] at hp; cases hp; exact kind_re (hr2.symm.trans g2)
  have kids : ∀ {j : Nat} {pn : PN}, V[j]? = some pn → ∃ pn', (V.set k { pp with attrs := pp.attrs ++ [V.length] } ++ [new])[j]? = some pn' ∧ pn'.kids = pn.kids := by
    intro j pn hj
    by_cases hk : j = k
    · subst hk; rw [hp] at hj; cases hj; exact ⟨_, set_at hp, rfl⟩
    · exact ⟨pn, set_ne hj hk, rfl⟩
  have att : ∀ {j : Nat} {an : PN}, V[j]? = some an → an.kind = Str.ofString "attribute" → (V.set k { pp with attrs := pp.attrs ++ [V.length] } ++ [new])[j]? = some an := by
    intro j an hj hka
    refine set_ne hj ?_
    rintro rfl; rw [hp] at hj; cases hj; exact kind_ea (g2.symm.trans hka)
  have hids := h.ids
  refine ⟨by simpa using hids, h.nodup, ⟨rt, set_ne hr1 h0, hr2, hr3⟩, ?_, ?_, ?_⟩
  · intro e he
    rcases List.mem_append.mp he with he | he
    · obtain ⟨⟨pn, q1, q2, q3, q4⟩, q5, q6⟩ := h.els e (List.mem_append_left _ he)
      have hke : e.id ≠ k := by
        have hn2 := h.nodup
        rw [← h.ids, List.map_append, List.nodup_append] at hn2
        exact hn2.2.2 e.id (List.mem_map_of_mem he) k (by simp)
      exact ⟨⟨pn, set_ne q1 hke, q2, q3, q4⟩, q5, fun q hq => by obtain ⟨an, r1, r2, r3, r4⟩ := q6 q hq; exact ⟨an, att r1 r2, r2, r3, r4⟩⟩
    · rw [List.mem_singleton.mp he]
      refine ⟨⟨_, set_at hp, g2, g3, by simp [g4]⟩, fun q hq => ?_, fun q hq => ?_⟩
      · rcases List.mem_append.mp hq with hq | hq
        · exact g5 q hq
        · rw [List.mem_singleton.mp hq]; exact hnm
      · rcases List.mem_append.mp hq with hq | hq
        · obtain ⟨an, r1, r2, r3, r4⟩ := g6 q hq; exact ⟨an, att r1 r2, r2, r3, r4⟩
        · rw [List.mem_singleton.mp hq]; exact ⟨new, set_new, hn.1, hn.2.1, hn.2.2⟩
  · intro k1 b1 r1 e
    obtain ⟨⟨pf, hf1, hf2⟩, hf3⟩ := h.first k1 b1 r1 e
    obtain ⟨pn', p1, p2⟩ := kids hf1
    exact ⟨⟨pn', p1, p2.trans hf2⟩, hf3⟩
  · intro p0 pre k1 b1 post e
    obtain ⟨pn, q1, q2⟩ := h.rest p0 pre k1 b1 post e
    obtain ⟨pn', p1, p2⟩ := kids q1
    exact ⟨pn', p1, p2.trans q2⟩
theorem kidsTail_rev (l : List (Nat × Bool)) : (kidsTail l).reverse = kidsTail l := by
  cases l with
  | nil => rfl
  | cons p r => obtain ⟨k, b⟩ := p; cases b <;> rfl
theorem BldV.tail {T : TreeS} (h : BldV (views T) es us) (hz : us.length ≤ 10) (p0 : Nat × Bool) : ∀ (l pre : List (Nat × Bool)), us = p0 :: (pre ++ l) → WalksT T (((l.filter (·.2)).map (·.1)).reverse ++ kidsTail l) (l.map (·.1)) := by
  intro l
  induction l with
  | nil => intro pre _; exact WalksT.nil
  | cons q r ih =>
    intro pre hu
    obtain ⟨k, b⟩ := q
    have hr := ih (pre ++ [(k, b)]) (by rw [hu]; simp)
    obtain ⟨pn, q1, q2⟩ := h.rest p0 pre k b r hu
    obtain ⟨e0, he0, hi0⟩ := h.id_of (p := (k, b)) (by rw [hu]; simp)
    obtain ⟨⟨pe, g1, g2, _⟩, _⟩ := h.els e0 he0
    have hi0' : e0.id = k := hi0
    rw [hi0', q1] at g1; cases g1
    obtain ⟨nd, n1, n2⟩ := views_at q1
    have hkk : nd.kids.map (·.1) = kidsTail r := by rw [← q2, ← n2]; rfl
    have hkd : nd.kind = Str.ofString "element" := by rw [← g2, ← n2]; rfl
    have hl : (((r.filter (·.2)).map (·.1)).reverse).length ≤ 100 := by
      have h1 := List.length_filter_le (fun x : Nat × Bool => x.2) r
      rw [hu] at hz
      simp only [List.length_cons, List.length_append] at hz
      rw [List.length_reverse, List.length_map]; omega
    have e : (((((k, b) :: r).filter (·.2)).map (·.1)).reverse ++ kidsTail ((k, b) :: r)) = ((r.filter (·.2)).map (·.1)).reverse ++ [k] := by
      cases b
      · rfl
      · simp [kidsTail]
    rw [e, List.map_cons]
    refine WalksT.cons n1 hkd hl ?_
    rw [hkk, kidsTail_rev]; exact hr
theorem BldV.elsOk {T : TreeS} (h : BldV (views T) es us) (hz : us.length ≤ 10) : ElsOk T es := by
  refine ⟨fun e he => ?_, ?_, by have := congrArg List.length h.ids; simp only [List.length_map] at this; omega⟩
  · obtain ⟨⟨pn, h1, h2, h3, h4⟩, h5, h6⟩ := h.els e he
    obtain ⟨nd, n1, n2⟩ := views_at h1
    refine ⟨nd, n1, by rw [← h3, ← n2]; rfl, ⟨by rw [← h4, ← n2]; rfl, fun q hq => ?_⟩, h5⟩
    obtain ⟨an, a1, a2, a3, a4⟩ := h6 q hq
    obtain ⟨nda, m1, m2⟩ := views_at a1
    exact ⟨nda, m1, by rw [← a3, ← m2]; rfl, by rw [← a4, ← m2]; rfl⟩
  · obtain ⟨rt, r1, r2, r3⟩ := h.root
    obtain ⟨nd0, n1, n2⟩ := views_at r1
    refine ⟨nd0, n1, ?_⟩
    have hk0 : nd0.kids.map (·.1) = (us.take 1).map (·.1) := by rw [← r3, ← n2]; rfl
    rw [hk0, h.ids]
    cases hu : us with
    | nil => exact WalksT.nil
    | cons p0 r =>
      obtain ⟨k, b⟩ := p0
      obtain ⟨⟨pf, f1, f2⟩, f3⟩ := h.first k b r hu
      have ht := h.tail hz (k, b) r [] (by rw [hu]; rfl)
      obtain ⟨e0, he0, hi0⟩ := h.id_of (p := (k, b)) (by rw [hu]; simp)
      obtain ⟨⟨pe, g1, g2, _⟩, _⟩ := h.els e0 he0
      have hi0' : e0.id = k := hi0
      rw [hi0', f1] at g1; cases g1
      obtain ⟨nd, m1, m2⟩ := views_at f1
      have hkk : nd.kids.map (·.1) = (r.filter (·.2)).map (·.1) := by rw [← f2, ← m2]; rfl
      have hkd : nd.kind = Str.ofString "element" := by rw [← g2, ← m2]; rfl
      have hkt : kidsTail r = [] := by
        cases r with
        | nil => rfl
        | cons q r => obtain ⟨k', b'⟩ := q; have := f3 k' b' r rfl; subst this; rfl
      rw [hkt, List.append_nil] at ht
      show WalksT T ([] ++ [k]) (k :: r.map (·.1))
      exact WalksT.cons m1 hkd (Nat.zero_le _) (by rw [hkk]; exact ht)
end

-- the tree's growth, step by step
def VOk (V : List PN) : Prop := ∀ pn ∈ V, pn.kids.length ≤ V.length ∧ pn.attrs.length ≤ V.length ∧ ValT pn.val
structure GT (T0 T : TreeS) (tl : Led) (es : List El) (us : List (Nat × Bool)) (b : Nat) : Prop where
  tree : TreeIn tl T
  sep : TSep T
  addr : T.t = T0.t
  bld : BldV (views T) es us
  vok : VOk (views T)
  small : T.nodes.length ≤ b
theorem GT.tsmall {T0 T : TreeS} {tl : Led} {es : List El} {us : List (Nat × Bool)} {b : Nat} (h : GT T0 T tl es us b) (hb : b ≤ 90) : TSmall T := by
  refine ⟨Nat.le_trans h.small hb, fun nd hm => ?_⟩
  have hv := h.vok (vw nd) (List.mem_map_of_mem hm)
  have hl := views_len T
  have hs := h.small
  refine ⟨?_, ?_, hv.2.2⟩
  · have := hv.1; simp only [vw, List.length_map] at this; omega
  · have := hv.2.1; simp only [vw, List.length_map] at this; omega
theorem VOk.grow {V : List PN} {k : Nat} {v1 new pp : PN} (h : VOk V) (hp : V[k]? = some pp) (h1 : v1.kids.length ≤ pp.kids.length + 1) (h2 : v1.attrs.length ≤ pp.attrs.length + 1) (h3 : v1.val = pp.val) (hn : new.kids = [] ∧ new.attrs = [] ∧ ValT new.val) : VOk (V.set k v1 ++ [new]) := by
  intro pn hm
  have hl : (V.set k v1 ++ [new]).length = V.length + 1 := by simp
  rw [hl]
  have hpp := h pp (List.mem_of_getElem? hp)
  rcases List.mem_append.mp hm with hm | hm
  · rcases List.mem_or_eq_of_mem_set hm with hm | rfl
    · have := h pn hm; exact ⟨by omega, by omega, this.2.2⟩
    · exact ⟨by omega, by omega, by rw [h3]; exact hpp.2.2⟩
  · rw [List.mem_singleton.mp hm, hn.1, hn.2.1]; exact ⟨Nat.zero_le _, Nat.zero_le _, hn.2.2⟩
theorem views_of {T : TreeS} {k : Nat} {nd : Nd} (h : T.nodes[k]? = some nd) : (views T)[k]? = some (vw nd) := by unfold views; rw [List.getElem?_map, h]; rfl
theorem valT_nil : ValT (Str.ofString "") := ⟨by decide +kernel, by decide +kernel⟩
section
variable {T0 T T' : TreeS} {tl tl' : Led} {es : List El} {us : List (Nat × Bool)} {b k : Nat} {nd new : Nd} {t : Tok}
theorem elPN_ok : (elPN.kind = Str.ofString "element" ∧ elPN.name = Str.ofString "e" ∧ elPN.attrs = []) ∧ elPN.kids = [] := ⟨⟨rfl, rfl, rfl⟩, rfl⟩
theorem views_len2 {v1 new : PN} (e : views T' = (views T).set k v1 ++ [new]) : T'.nodes.length = T.nodes.length + 1 := by
  have := congrArg List.length e
  simpa [views_len] using this
theorem GT.kid (h : GT T0 T tl es us b) (hn : T.nodes[k]? = some nd) (h1 : TreeIn tl' T' ∧ TSep T' ∧ T'.t = T.t) (e : views T' = (views T).set k { vw nd with kids := (vw nd).kids ++ [T.nodes.length] } ++ [elPN]) {es' : List El} {us' : List (Nat × Bool)}
    (hb : BldV ((views T).set k { vw nd with kids := (vw nd).kids ++ [(views T).length] } ++ [elPN]) es' us') : GT T0 T' tl' es' us' (b + 1) := by
  refine ⟨h1.1, h1.2.1, h1.2.2.trans h.addr, by rw [e, ← views_len]; exact hb, ?_, ?_⟩
  · rw [e]
    exact h.vok.grow (views_of hn) (by simp) (by simp) rfl ⟨rfl, rfl, valT_nil⟩
  · have := h.small; rw [views_len2 e]; omega
theorem GT.attr {ats : List (Nat × Str × Str)} {nm v : Str} (h : GT T0 T tl (es ++ [⟨k, ats⟩]) us b) (hn : T.nodes[k]? = some nd) (hnm : nm = Str.ofString "i" ∨ nm = Str.ofString "r" ∨ nm = Str.ofString "s") (hv : ValT v)
    (h1 : TreeIn tl' T' ∧ TSep T' ∧ T'.t = T.t) (e : views T' = (views T).set k { vw nd with attrs := (vw nd).attrs ++ [T.nodes.length] } ++ [⟨Str.ofString "attribute", nm, v, [], []⟩]) : GT T0 T' tl' (es ++ [⟨k, ats ++ [(T.nodes.length, nm, v)]⟩]) us (b + 1) := by
  have hb := h.bld.addAttr (new := ⟨Str.ofString "attribute", nm, v, [], []⟩) (nm := nm) (v := v) (views_of hn) ⟨rfl, rfl, rfl⟩ hnm
  rw [views_len] at hb
  refine ⟨h1.1, h1.2.1, h1.2.2.trans h.addr, by rw [e]; exact hb, ?_, ?_⟩
  · rw [e]
    exact h.vok.grow (views_of hn) (by simp) (by simp) rfl ⟨rfl, rfl, hv⟩
  · have := h.small; rw [views_len2 e]; omega
/-- the last element: its node, the attributes that it has -/
theorem GT.last {ats : List (Nat × Str × Str)} (h : GT T0 T tl (es ++ [⟨k, ats⟩]) us b) : ∃ nd, T.nodes[k]? = some nd ∧ nd.kind = Str.ofString "element" ∧ nd.attrs.map (·.1) = ats.map (·.1) ∧ ∀ q ∈ ats, ∃ an, T.nodes[q.1]? = some an ∧ an.name = q.2.1 := by
  obtain ⟨⟨pn, h1, h2, h3, h4⟩, h5, h6⟩ := h.bld.els ⟨k, ats⟩ (by simp)
  obtain ⟨nd, n1, n2⟩ := views_at h1
  refine ⟨nd, n1, by rw [← h2, ← n2]; rfl, by rw [← h4, ← n2]; rfl, fun q hq => ?_⟩
  obtain ⟨an, a1, a2, a3, a4⟩ := h6 q hq
  obtain ⟨nda, m1, m2⟩ := views_at a1
  exact ⟨nda, m1, by rw [← a3, ← m2]; rfl⟩
theorem GT.free {ats : List (Nat × Str × Str)} {nm : Str} (hl : nd.attrs.map (·.1) = ats.map (·.1)) (ha : ∀ q ∈ ats, ∃ an, T.nodes[q.1]? = some an ∧ an.name = q.2.1) (hf : ∀ q ∈ ats, q.2.1 ≠ nm) : ∀ p ∈ nd.attrs, ∃ an, T.nodes[p.1]? = some an ∧ an.name ≠ nm := by
  intro p hp
  have : p.1 ∈ ats.map (·.1) := by rw [← hl]; exact List.mem_map_of_mem hp
  obtain ⟨q, hq, e⟩ := List.mem_map.mp this
  obtain ⟨an, a1, a2⟩ := ha q hq
  exact ⟨an, e ▸ a1, by rw [a2]; exact hf q hq⟩
end

def ParOk (T : TreeS) (es : List El) (us : List (Nat × Bool)) (k : Nat) : Prop := ∃ nd bb, T.nodes[k]? = some nd ∧ ([Str.ofString "root", Str.ofString "element"].any fun x => x == nd.kind) = true ∧
  BldV ((views T).set k { vw nd with kids := (vw nd).kids ++ [(views T).length] } ++ [elPN]) (es ++ [⟨(views T).length, []⟩]) (us ++ [((views T).length, bb)])
section
variable {T : TreeS} {es : List El} {us : List (Nat × Bool)}
theorem parOk_root (h : BldV (views T) es us) (hu : us.length = 0) : ParOk T es us 0 := by
  obtain ⟨rt, r1, r2, r3⟩ := h.root
  obtain ⟨nd, n1, rfl⟩ := views_at r1
  exact ⟨nd, true, n1, by rw [show nd.kind = _ from r2]; simp, h.addRoot (List.length_eq_zero_iff.mp hu) r1 elPN_ok.1 elPN_ok.2⟩
theorem el_node (h : BldV (views T) es us) {e : El} (he : e ∈ es) : ∃ nd, T.nodes[e.id]? = some nd ∧ nd.kind = Str.ofString "element" := by
  obtain ⟨⟨pn, h1, h2, _⟩, _⟩ := h.els e he
  obtain ⟨nd, n1, n2⟩ := views_at h1
  exact ⟨nd, n1, by rw [← h2, ← n2]; rfl⟩
theorem parOk_first (h : BldV (views T) es us) {e : El} (he : es[0]? = some e) : ParOk T es us e.id := by
  obtain ⟨nd, n1, n2⟩ := el_node h (List.mem_of_getElem? he)
  have hid := h.ids
  cases us with
  | nil => rw [List.map_nil, List.map_eq_nil_iff] at hid; rw [hid] at he; cases he
  | cons p r =>
    obtain ⟨k0, b0⟩ := p
    have e0 : e.id = k0 := by
      have := congrArg (fun l => l[0]?) hid
      simp only [List.getElem?_map, he] at this
      simpa using this
    subst e0
    exact ⟨nd, true, n1, by rw [n2]; simp, h.addUp rfl (views_of n1) elPN_ok.1 elPN_ok.2⟩
theorem parOk_last (h : BldV (views T) es us) {e : El} (he : es.getLast? = some e) : ParOk T es us e.id := by
  obtain ⟨es0, rfl⟩ : ∃ es0, es = es0 ++ [e] := by
    obtain ⟨l0, p, rfl⟩ := snoc_of (l := es) (fun q => by rw [q] at he; cases he)
    rw [List.getLast?_append] at he; simp at he; exact ⟨l0, by rw [he]⟩
  cases es0 with
  | nil => exact parOk_first h rfl
  | cons e0 es0 =>
    obtain ⟨nd, n1, n2⟩ := el_node h (e := e) (by simp)
    have hid := h.ids
    obtain ⟨us0, pl, rfl⟩ := snoc_of (l := us) (fun q => by rw [q] at hid; simp at hid)
    cases us0 with
    | nil => have := congrArg List.length hid; simp at this
    | cons p0 pre =>
      obtain ⟨kl, bl⟩ := pl
      have el : e.id = kl := by
        rw [List.map_append, List.map_append] at hid
        obtain ⟨_, h2⟩ := List.append_inj' hid rfl
        simpa using h2
      subst el
      exact ⟨nd, false, n1, by rw [n2]; simp, h.addLast (pre := pre) rfl (views_of n1) elPN_ok.1 elPN_ok.2⟩
end
def ownD (ats : List (Nat × Str × Str)) : Dat := match ats.find? (fun q => q.2.1 == Str.ofString "i") with | none => .none | some q => .list ((partB q.2.2).map Dat.str)
def rowD (e : El) : Dat := .tuple [.int ((e.id : Nat) : Int), ownD e.ats, .list (pd (pairsP e.ats))]
def rootPN : PN := ⟨Str.ofString "root", Str.ofString "", Str.ofString "", [], []⟩
theorem bld_root {V : List PN} (h : V = [rootPN]) : BldV V [] [] := by
  subst h
  exact ⟨rfl, by simp, ⟨rootPN, rfl, rfl, rfl⟩, fun e he => (nomatch he), fun k b r e => (nomatch e), fun p0 pre k b post e => nomatch e⟩
theorem rows_at {rn : Led} {vs : List Value} {es : List El} {j : Nat} {e : El} (h : DatAll rn vs (es.map rowD)) (he : es[j]? = some e) : ∃ (rt : Addr) (t : Tok) (ov pv : Value) (n : Nat), vs[j]? = some (.ref rt) ∧ (rt, ({ cls := .type "tuple", data := .seq #[.int ((e.id : Nat) : Int) t, ov, pv] n } : Obj)) ∈ rn ∧ DatIn rn ov (ownD e.ats) ∧ DatIn rn pv (.list (pd (pairsP e.ats))) := by
  have hj : j < (es.map rowD).length := by rw [List.length_map]; exact (List.getElem?_eq_some_iff.mp he).1
  obtain ⟨v, hv, hd⟩ := h.get hj
  have e1 : (es.map rowD)[j] = rowD e := by rw [List.getElem_map]; congr 1; exact (List.getElem?_eq_some_iff.mp he).2
  rw [e1] at hd
  unfold rowD at hd
  cases hd with
  | tuple hm hr =>
    cases hr with
    | cons h1 hr =>
      cases hr with
      | cons h2 hr =>
        cases hr with
        | cons h3 hr =>
          cases hr
          cases h1
          exact ⟨_, _, _, _, _, hv, hm, h2, h3⟩
theorem valT_ok {x : Str} (h : ValOk x) : ValT x := ⟨h.1, by have := h.2; omega⟩
theorem valOk_k : ValOk (Str.ofString " k") := ⟨by decide +kernel, by decide +kernel⟩
theorem valOk_nil : ValOk (Str.ofString "") := ⟨by decide +kernel, by decide +kernel⟩
theorem valT_k {x : Str} (h : ValOk x) : ValT (x ++ Str.ofString " k") := by
  have hs : (Str.ofString " k").cps.size = 2 := by decide +kernel
  refine ⟨by rw [Str.cps_append, Array.all_append, h.1, valOk_k.1]; rfl, ?_⟩
  rw [Str.cps_append, Array.size_append, hs]; have := h.2; omega
def ns3 : List Str := [Str.ofString "i", Str.ofString "r", Str.ofString "s"]
theorem names_free {ats : List (Nat × Str × Str)} {j : Nat} {nm : Str} (h : ∀ q ∈ ats, ∃ j', j' < j ∧ ns3[j']? = some q.2.1) (hj : ns3[j]? = some nm) : ∀ q ∈ ats, q.2.1 ≠ nm := by
  unfold ns3 at h hj
  have d1 : Str.ofString "i" ≠ Str.ofString "r" := by decide +kernel
  have d2 : Str.ofString "i" ≠ Str.ofString "s" := by decide +kernel
  have d3 : Str.ofString "r" ≠ Str.ofString "s" := by decide +kernel
  intro q hq e
  obtain ⟨j', hlt, hj'⟩ := h q hq
  rw [e] at hj'
  match j, j', hlt, hj, hj' with
  | 1, 0, _, a, b => simp at a b; exact d1 (b.trans a.symm)
  | 2, 0, _, a, b => simp at a b; exact d2 (b.trans a.symm)
  | 2, 1, _, a, b => simp at a b; exact d3 (b.trans a.symm)
  | j + 3, _, _, a, _ => simp at a
def RF (xs : List Addr) (rn tl : Led) : Prop := (∀ x ∈ xs, ∀ p ∈ rn ++ tl, p.1 ≠ x) ∧ Apart rn tl
theorem RF.cons {xs : List Addr} {rn tl : Led} {a : Addr} {o : Obj} (h : RF xs rn tl) (hx : ∀ x ∈ xs, @Ne Nat a x) (ht : ∀ q ∈ rn ++ tl, q.1 ≠ a) : RF xs ((a, o) :: rn) tl :=
  ⟨fun x hm => List.forall_mem_cons.mpr ⟨hx x hm, h.1 x hm⟩, List.forall_mem_cons.mpr ⟨fun q hq => ht q (List.mem_append_right _ hq), h.2⟩⟩
theorem ownD_i {ats : List (Nat × Str × Str)} {k : Nat} {x : Str} (hf : ∀ q ∈ ats, q.2.1 ≠ Str.ofString "i") : ownD (ats ++ [(k, Str.ofString "i", x)]) = .list ((partB x).map Dat.str) := by
  unfold ownD
  have e : ats.find? (fun q => q.2.1 == Str.ofString "i") = none := by rw [List.find?_eq_none]; intro q hq; simpa using hf q hq
  rw [List.find?_append, e]; simp
theorem ownD_o {ats : List (Nat × Str × Str)} {k : Nat} {nm x : Str} (hn : nm ≠ Str.ofString "i") : ownD (ats ++ [(k, nm, x)]) = ownD ats := by
  unfold ownD
  rw [List.find?_append]
  have e : List.find? (fun q : Nat × Str × Str => q.2.1 == Str.ofString "i") [(k, nm, x)] = none := by rw [List.find?_eq_none]; intro q hq; rw [List.mem_singleton.mp hq]; simpa using hn
  rw [e, Option.or_none]
theorem dat_strs {led : Led} (ws : List (Str × Tok)) : DatAll led (strValues ws) ((ws.map (·.1)).map Dat.str) := by
  induction ws with
  | nil => exact .nil
  | cons p r ih => exact .cons (.str _ _) ih
theorem dup_mem {h₀ h : Heap} {L : Addr} {a b c d : Addr × Obj} {l : Led} (hd : d ∈ l) (N : News h₀ L h (a :: b :: c :: l)) : News h₀ L h (a :: b :: c :: d :: l) := fun p hp => N p (by
  rcases List.mem_cons.mp hp with rfl | hp
  · exact List.mem_cons_self
  rcases List.mem_cons.mp hp with rfl | hp
  · exact List.mem_cons_of_mem _ List.mem_cons_self
  rcases List.mem_cons.mp hp with rfl | hp
  · exact List.mem_cons_of_mem _ (List.mem_cons_of_mem _ List.mem_cons_self)
  rcases List.mem_cons.mp hp with rfl | hp
  · exact List.mem_cons_of_mem _ (List.mem_cons_of_mem _ (List.mem_cons_of_mem _ hd))
  · exact List.mem_cons_of_mem _ (List.mem_cons_of_mem _ (List.mem_cons_of_mem _ hp)))
theorem sub_tups {a b c d e f x : Addr × Obj} {t r l : Led} : ∀ p ∈ a :: b :: c :: d :: e :: f :: ((t ++ r) ++ l), p ∈ a :: (t ++ (x :: b :: c :: d :: e :: f :: (r ++ l))) := by
  intro p hp
  simp only [List.mem_cons, List.mem_append] at hp ⊢
  rcases hp with h | h | h | h | h | h | (h | h) | h <;> simp [h]
theorem pd_take {x : Str} {k j : Nat} {y : Str} (h : (partB x)[j]? = some y) : pd (((partB x).take (j + 1)).map fun z => (k, z)) = pd (((partB x).take j).map fun z => (k, z)) ++ [.tuple [.int ((k : Nat) : Int), .str y]] := by
  rw [take_one h, List.map_append]; exact pd_snoc _ _
section
variable {prog : Program} {w : World} {A : Around} {E : Value → Shared → Prop} {s : Shared} {h₀ : Heap} {L : Addr} {m : Str → Option Value} {news : Led} {Q : Value → Shared → Prop}
theorem mul_flag {l : Addr} {vs : List Value} {k : Nat} {b : Bool} {u : Tok} (Fm : Fr h₀ L s.heap m) (N : News h₀ L s.heap news) (hm : (l, listOf vs.toArray k) ∈ news) (hsz : vs.length ≤ 10000)
    (h : ∀ D h', Fr h₀ L h' m → News h₀ L h' ((D, listOf (if b = true then vs else []).toArray 0) :: news) → (∀ p ∈ news, p.1 < D) → Q (.ref D) { s with heap := h' }) : wpAny (model prog w) A (binaryOp .Mult (.ref l) (.int (if b = true then 1 else 0) u)) Q E s := by
  refine PyProof.Rows.mul_list Fm N (N _ hm).1 (by cases b <;> decide) (by cases b <;> decide) (by cases b <;> simp; omega) fun h' F' N' => h _ h' F' ?_ fun p hp => Heap.lt_size (N p hp).1
  have e : List.foldl (fun x1 x2 => x1 ++ x2) #[] (List.replicate (if vs.toArray.isEmpty = true then 0 else (if b = true then (1 : Int) else 0).toNat) vs.toArray) = (if b = true then vs else []).toArray := by
    cases b <;> cases vs <;> simp
  rw [e] at N'
  exact N'
theorem add_plain {a b : Addr} {vs ws : List Value} {k1 k2 : Nat} (F : Fr h₀ L s.heap m) (N : News h₀ L s.heap news) (ha : (a, listOf vs.toArray k1) ∈ news) (hb : (b, listOf ws.toArray k2) ∈ news) (hz : vs.length + ws.length ≤ 1000000)
    (h : ∀ D h', Fr h₀ L h' m → News h₀ L h' ((D, listOf (vs ++ ws).toArray 0) :: news) → (∀ p ∈ news, p.1 < D) → Q (.ref D) { s with heap := h' }) : wpAny (model prog w) A (binaryOp .Add (.ref a) (.ref b)) Q E s :=
  kmk_add_lit F N (News.isList N ha) (News.isList N hb) rfl h (by rw [sizeLine_eq]; simp only [List.toList_toArray]; omega)
end
theorem dup2 {h₀ h : Heap} {L : Addr} {a b c d e f x : Addr × Obj} {l : Led} (hx : x ∈ l) (N : News h₀ L h (a :: b :: c :: d :: e :: f :: l)) : News h₀ L h (a :: x :: b :: c :: d :: e :: f :: l) := fun p hp => N p (by
  simp only [List.mem_cons] at hp ⊢
  rcases hp with h | h | h | h | h | h | h | h <;> first | (simp [h]; done) | (subst h; simp [hx]; done))
theorem RF.tup {src ra c I I2 a : Addr} {o1 o2 o3 o4 o5 o : Obj} {x : Addr × Obj} {t r l : Led} (h : RF [src, ra, c, I, I2] (t ++ r) l) (hf : ∀ p ∈ t ++ (x :: (src, o1) :: (ra, o2) :: (c, o3) :: (I, o4) :: (I2, o5) :: (r ++ l)), p.1 ≠ a) : RF [src, ra, c, I, I2] (((a, o) :: t) ++ r) l := by
  refine RF.cons h ?_ ?_
  · have g : ∀ q ∈ x :: (src, o1) :: (ra, o2) :: (c, o3) :: (I, o4) :: (I2, o5) :: (r ++ l), q.1 ≠ a := fun q hq => hf q (List.mem_append_right _ hq)
    intro y hy e
    simp only [List.mem_cons, List.not_mem_nil, or_false] at hy
    rcases hy with rfl | rfl | rfl | rfl | rfl
    · exact g (_, o1) (by simp) e.symm
    · exact g (_, o2) (by simp) e.symm
    · exact g (_, o3) (by simp) e.symm
    · exact g (_, o4) (by simp) e.symm
    · exact g (_, o5) (by simp) e.symm
  · intro q hq
    rcases List.mem_append.mp hq with hq | hq
    · rcases List.mem_append.mp hq with hq | hq
      · exact hf q (List.mem_append_left _ hq)
      · exact hf q (List.mem_append_right _ (by simp [hq]))
    · exact hf q (List.mem_append_right _ (by simp [hq]))
theorem pairs_next {rn tlp rx : Led} {e : Addr × Obj} {pvs ys : List Value} {ats : List (Nat × Str × Str)} {k : Nat} {nm x : Str} {ws : List (Str × Tok)} (hws : ws.map (·.1) = partB x) (hp : DatAll rn pvs (pd (pairsP ats))) (hd : DatAll tlp ys (pd (((partB x).take (strValues ws).length).map fun z => (k, z)))) :
    DatAll (e :: (tlp ++ (rx ++ rn))) (pvs ++ (if (nm != Str.ofString "i") = true then ys else [])) (pd (pairsP (ats ++ [(k, nm, x)]))) := by
  have hl : (strValues ws).length = (partB x).length := by rw [strValues_len, ← hws, List.length_map]
  rw [hl, List.take_length] at hd
  rw [pairsP_snoc]
  unfold pd at hp hd ⊢
  rw [List.map_append]
  refine (hp.mono fun p h => List.mem_cons_of_mem _ (List.mem_append_right _ (List.mem_append_right _ h))).append ?_
  by_cases hq : nm = Str.ofString "i"
  · subst hq
    rw [if_neg (by simp), if_pos (by simp)]
    exact .nil
  · rw [if_pos (by simpa using hq), if_neg (by simpa using hq)]
    exact hd.mono fun p h => List.mem_cons_of_mem _ (List.mem_append_left _ h)
theorem names_next {ats : List (Nat × Str × Str)} {k j : Nat} {nm x : Str} {l : List Str} (h : ∀ q ∈ ats, ∃ j', j' < j ∧ l[j']? = some q.2.1) (hj : l[j]? = some nm) : ∀ q ∈ ats ++ [(k, nm, x)], ∃ j', j' < j + 1 ∧ l[j']? = some q.2.1 := by
  intro q hq
  rcases List.mem_append.mp hq with hq | hq
  · obtain ⟨j', h1, h2⟩ := h q hq
    exact ⟨j', Nat.lt_succ_of_lt h1, h2⟩
  · rw [List.mem_singleton.mp hq]; exact ⟨j, Nat.lt_succ_self _, hj⟩
theorem len_next {pvs ys : List Value} {j : Nat} (b : Bool) (h : pvs.length ≤ 1001 * j) (hy : ys.length ≤ 1001) : (pvs ++ (if b = true then ys else [])).length ≤ 1001 * (j + 1) := by
  rw [List.length_append]; cases b <;> simp <;> omega
theorem rf_head {h₀ h : Heap} {L a : Addr} {o : Obj} {xs : List Addr} {rn tl rest : Led} (_N : News h₀ L h ((a, o) :: rest)) (g : RF xs rn tl) (hx : ∀ x ∈ xs, @Ne Nat a x) (ht : ∀ q ∈ rn ++ tl, q.1 ≠ a) : RF xs ((a, o) :: rn) tl := g.cons hx ht
theorem rf_head2 {h₀ h : Heap} {L src ra c I I2 a d2 d3 pa : Addr} {o o2 o3 o4 p1 p2 p3 p4 p5 : Obj} {rn tl : Led} (_N : News h₀ L h ((a, o) :: (d2, o2) :: (d3, o3) :: (pa, o4) :: (src, p1) :: (ra, p2) :: (c, p3) :: (I, p4) :: (I2, p5) :: (rn ++ tl))) (g : RF [src, ra, c, I, I2] rn tl)
    (hf : ∀ p ∈ (d2, o2) :: (d3, o3) :: (pa, o4) :: (src, p1) :: (ra, p2) :: (c, p3) :: (I, p4) :: (I2, p5) :: (rn ++ tl), p.1 ≠ a) : RF [src, ra, c, I, I2] ((a, o) :: rn) tl := by
  have hx : ∀ x ∈ [src, ra, c, I, I2], @Ne Nat a x := by
    intro y hy e
    simp only [List.mem_cons, List.not_mem_nil, or_false] at hy
    rcases hy with rfl | rfl | rfl | rfl | rfl
    · exact hf (_, p1) (by simp) e.symm
    · exact hf (_, p2) (by simp) e.symm
    · exact hf (_, p3) (by simp) e.symm
    · exact hf (_, p4) (by simp) e.symm
    · exact hf (_, p5) (by simp) e.symm
  exact g.cons hx fun q hq => hf q (by simp [hq])
theorem RF.one {src ra c I I2 a : Addr} {o p1 p2 p3 p4 p5 : Obj} {rn tl : Led} (g : RF [src, ra, c, I, I2] rn tl) (hf : ∀ p ∈ (src, p1) :: (ra, p2) :: (c, p3) :: (I, p4) :: (I2, p5) :: (rn ++ tl), p.1 ≠ a) : RF [src, ra, c, I, I2] ([(a, o)] ++ rn) tl := by
  have hx : ∀ x ∈ [src, ra, c, I, I2], @Ne Nat a x := by
    intro y hy e
    simp only [List.mem_cons, List.not_mem_nil, or_false] at hy
    rcases hy with rfl | rfl | rfl | rfl | rfl
    · exact hf (_, p1) (by simp) e.symm
    · exact hf (_, p2) (by simp) e.symm
    · exact hf (_, p3) (by simp) e.symm
    · exact hf (_, p4) (by simp) e.symm
    · exact hf (_, p5) (by simp) e.symm
  exact g.cons hx fun q hq => hf q (by simp [hq])
/-- what stays true while rows are made (the outer loop) -/
structure GI (src ra c : Addr) (T0 : TreeS) (d : Nat) (news : Led) (i : Nat) (m₁ : Map) (o oc : Obj) (vs : List Value) (rn tl : Led) (T : TreeS) (es : List El) (us : List (Nat × Bool)) : Prop where
  so : SrcO o
  oc : ∃ v, oc.data = .cell v
  gt : GT T0 T tl es us (1 + 4 * i)
  rf : RF [src, ra, c] rn tl
  sub : ∀ p ∈ news, p ∈ rn
  rows : DatAll rn vs (es.map rowD)
  len : us.length = i
  l1 : m₁ (Str.ofString "source") = some (.ref src)
  l2 : m₁ (Str.ofString "tree") = some (.ref T0.t)
  l3 : ∃ t, m₁ (Str.ofString "root") = some (.int ((0 : Nat) : Int) t)
  l4 : m₁ (Str.ofString "rows") = some (.ref ra)
  l5 : ∃ t, m₁ (Str.ofString "many") = some (.int (3 + ((d : Nat) : Int)) t)
/-- .. while an element's attributes are set (the inner loop) -/
structure GJ (src ra c I : Addr) (T0 : TreeS) (rn0 : Led) (es : List El) (us : List (Nat × Bool)) (b0 node i d : Nat) (j : Nat) (m₁ : Map) (o oc : Obj) (rn tl : Led) (T : TreeS) (ats : List (Nat × Str × Str)) (ov : Value) (pa : Addr) (kp : Nat) (pvs : List Value) : Prop where
  so : SrcO o
  oc : ∃ v, oc.data = .cell v
  gt : GT T0 T tl (es ++ [⟨node, ats⟩]) us (b0 + j)
  rf : RF [src, ra, c, I] rn tl
  sub : ∀ p ∈ rn0, p ∈ rn
  own : DatIn rn ov (ownD ats)
  pin : (pa, listOf (List.toArray pvs) kp) ∈ rn
  prs : DatAll rn pvs (pd (pairsP ats))
  len : pvs.length ≤ 1001 * j
  nms : ∀ q ∈ ats, ∃ j', j' < j ∧ ns3[j']? = some q.2.1
  l1 : m₁ (Str.ofString "source") = some (.ref src)
  l2 : m₁ (Str.ofString "tree") = some (.ref T0.t)
  l3 : ∃ t, m₁ (Str.ofString "node") = some (.int ((node : Nat) : Int) t)
  l4 : m₁ (Str.ofString "rows") = some (.ref ra)
  l5 : ∃ t, m₁ (Str.ofString "many") = some (.int (3 + ((d : Nat) : Int)) t)
  l6 : ∃ t, m₁ (Str.ofString "at") = some (.int (0 + ((i : Nat) : Int)) t)
  l7 : m₁ (Str.ofString "own") = some ov
  l8 : m₁ (Str.ofString "pairs") = some (.ref pa)
  l9 : ∃ t, m₁ (Str.ofString "root") = some (.int ((0 : Nat) : Int) t)
theorem ns3_cases {j : Nat} {nm : Str} (h : ns3[j]? = some nm) : nm = Str.ofString "i" ∨ nm = Str.ofString "r" ∨ nm = Str.ofString "s" := by
  unfold ns3 at h
  rcases j with _ | _ | _ | j <;> simp at h
  · exact .inl h.symm
  · exact .inr (.inl h.symm)
  · exact .inr (.inr h.symm)
theorem arr_name {h₀ h : Heap} {L a : Addr} {v : Array Value} {n : Nat} {rest : Led} (_N : News h₀ L h ((a, listOf v n) :: rest)) : ∃ its, its = v := ⟨v, rfl⟩
theorem ns3_at {t1 t2 t3 : Tok} {j : Nat} {v : Value} (h : (#[.str (Str.ofString "i") t1, .str (Str.ofString "r") t2, .str (Str.ofString "s") t3] : Array Value)[j]? = some v) : ∃ nm tn, ns3[j]? = some nm ∧ v = .str nm tn := by
  rcases j with _ | _ | _ | j
  · simp at h; exact ⟨_, _, rfl, h.symm⟩
  · simp at h; exact ⟨_, _, rfl, h.symm⟩
  · simp at h; exact ⟨_, _, rfl, h.symm⟩
  · simp at h
theorem own_next {ats : List (Nat × Str × Str)} {k j : Nat} {nm x : Str} {ws : List (Str × Tok)} {a : Addr} {n : Nat} {rn : Led} (h : ∀ q ∈ ats, ∃ j', j' < j ∧ ns3[j']? = some q.2.1) (hj : ns3[j]? = some nm) (hi : (nm == Str.ofString "i") = true) (hws : ws.map (·.1) = partB x) :
    DatIn ((a, listOf (strValues ws).toArray n) :: rn) (.ref a) (ownD (ats ++ [(k, nm, x)])) := by
  have e : nm = Str.ofString "i" := by simpa using hi
  rw [e, ownD_i (e ▸ names_free h hj), ← hws]
  exact .list List.mem_cons_self (dat_strs ws)
theorem own_keep {ats : List (Nat × Str × Str)} {k : Nat} {nm x : Str} {ov : Value} {rn : Led} (h : DatIn rn ov (ownD ats)) (hi : (nm == Str.ofString "i") = false) : DatIn rn ov (ownD (ats ++ [(k, nm, x)])) := by
  rw [ownD_o (by simpa using hi)]; exact h
theorem upd_same {V : Type} {a : Str} {u : V} {m : Str → V} : (fun y => if y = a then u else m y) = fun y => if y = a then u else (if y = a then u else m y) := by funext y; split <;> rfl
def VOpt (P : Str → Prop) (u : Option Value) : Prop := u = some .none ∨ ∃ x t, u = some (.str x t) ∧ P x
theorem RF.add4 {src ra c I a : Addr} {o p1 p2 p3 p4 : Obj} {rn tl : Led} (g : RF [src, ra, c, I] rn tl) (hf : ∀ p ∈ (src, p1) :: (ra, p2) :: (c, p3) :: (I, p4) :: (rn ++ tl), p.1 ≠ a) : RF [src, ra, c, I] ((a, o) :: rn) tl := by
  have hx : ∀ x ∈ [src, ra, c, I], @Ne Nat a x := by
    intro y hy e
    simp only [List.mem_cons, List.not_mem_nil, or_false] at hy
    rcases hy with rfl | rfl | rfl | rfl
    · exact hf (_, p1) (by simp) e.symm
    · exact hf (_, p2) (by simp) e.symm
    · exact hf (_, p3) (by simp) e.symm
    · exact hf (_, p4) (by simp) e.symm
  exact g.cons hx fun q hq => hf q (by simp [hq])
theorem RF.add4b {src ra c I a b : Addr} {o ob p1 p2 p3 p4 : Obj} {rn tl : Led} (g : RF [src, ra, c, I] ((b, ob) :: rn) tl) (hf : ∀ p ∈ (b, ob) :: (src, p1) :: (ra, p2) :: (c, p3) :: (I, p4) :: (rn ++ tl), p.1 ≠ a) : RF [src, ra, c, I] ((a, o) :: (b, ob) :: rn) tl :=
  RF.add4 (p1 := p1) (p2 := p2) (p3 := p3) (p4 := p4) g fun p hp => hf p (by simp only [List.mem_cons, List.cons_append] at hp ⊢; rcases hp with h | h | h | h | h | h <;> simp [h])
theorem RF.less {xs ys : List Addr} {rn tl : Led} (h : RF xs rn tl) (hs : ∀ x ∈ ys, x ∈ xs) : RF ys rn tl := ⟨fun x hx => h.1 x (hs x hx), h.2⟩
theorem ns3_lt {j : Nat} {nm : Str} (h : ns3[j]? = some nm) : j < 3 := (List.getElem?_eq_some_iff.mp h).1

-- _law_grown
theorem c_addelA (w : World) (a0 : Addr) (T : TreeS) (nd : Nd) (k : Nat) (tk t1 t2 t3 : Tok) (rest tl : Led) (ha : T.t = a0) (hT : TreeIn tl T) (hs : TSep T) (hz : TSmall T) (hn : T.nodes[k]? = some nd) (hkd : ([Str.ofString "root", Str.ofString "element"].any fun x => x == nd.kind) = true) (hap : Apart rest tl) :
    Con w 6 388 [.ref a0, .int ((k : Nat) : Int) tk, .str (Str.ofString "e") t1, .str (Str.ofString "") t2, .str (Str.ofString "e") t3] (rest ++ tl) (fun news' r => ∃ tl' T' t, (TreeIn tl' T' ∧ TSep T' ∧ Apart rest tl' ∧ T'.t = T.t ∧ views T' = (views T).set k { vw nd with kids := (vw nd).kids ++ [T.nodes.length] } ++ [elPN]) ∧ r = .int ((T.nodes.length : Nat) : Int) t ∧ news' = rest ++ tl') := by
  subst ha; exact c_addel w T nd k tk t1 t2 t3 rest tl hT hs hz hn hkd hap
theorem c_setattrA (w : World) (a0 : Addr) (T : TreeS) (nd : Nd) (k : Nat) (nm val : Str) (tk t1 t2 t3 t4 : Tok) (rest tl : Led) (ha : T.t = a0) (hT : TreeIn tl T) (hs : TSep T) (hz : TSmall T) (hn : T.nodes[k]? = some nd) (hkd : nd.kind = Str.ofString "element") (hap : Apart rest tl) (hfree : ∀ p ∈ nd.attrs, ∃ an, T.nodes[p.1]? = some an ∧ an.name ≠ nm) :
    Con w 6 423 [.ref a0, .int ((k : Nat) : Int) tk, .str nm t1, .str (Str.ofString "") t2, .str nm t3, .str val t4] (rest ++ tl) (fun news' r => ∃ tl' T' t, (TreeIn tl' T' ∧ TSep T' ∧ Apart rest tl' ∧ T'.t = T.t ∧ views T' = (views T).set k { vw nd with attrs := (vw nd).attrs ++ [T.nodes.length] } ++ [⟨Str.ofString "attribute", nm, val, [], []⟩]) ∧ r = .int ((T.nodes.length : Nat) : Int) t ∧ news' = rest ++ tl') := by
  subst ha; exact c_setattr w T nd k nm val tk t1 t2 t3 t4 rest tl hT hs hz hn hkd hap hfree
section
theorem w32 : True := by
  k_with_none
  (k_with "~my_fold" => ((fail_if_success (fail_if_success k_fold)); (refine (let qk := _; (?_ : wpAny _ _ _ qk _ _)))))
  (k_with "~my_state" => ((fail_if_success (fail_if_success (conv => arg 6; pattern PySem.Shared.mk _ _ _ _ _))); (refine (let sk := _; (?_ : wpAny _ _ _ _ _ sk)))))
  (k_with "~my_around" => ((try refine (let vk := _; (?_ : wpAny _ _ (execs _ vk) _ _ _))); (refine (let ak := _; (?_ : wpAny _ ak _ _ _ _)))))
  (k_with "~my_enter" => (refine wpAny_call ?_; k_dflt ktr_enter; (try walk_at "my_around")))
  (k_with "~use2" => (
  (first | (refine post00 ?_; intro h9z9 tk9z9 F9z9 N9z9) | (refine post10 ?_; intro x1z9 h9z9 tk9z9 F9z9 N9z9) | (refine post20 ?_; intro x1z9 x2z9 h9z9 tk9z9 F9z9 N9z9) | (refine post21 ?_; intro x1z9 x2z9 q1z9 h9z9 tk9z9 F9z9 N9z9) | (refine post22 ?_; intro x1z9 x2z9 q1z9 q2z9 h9z9 tk9z9 F9z9 N9z9) | (refine post31 ?_; intro x1z9 x2z9 x3z9 q1z9 h9z9 tk9z9 F9z9 N9z9) | (refine post32 ?_; intro x1z9 x2z9 x3z9 q1z9 q2z9 h9z9 tk9z9 F9z9 N9z9) | (refine post33 ?_; intro x1z9 x2z9 x3z9 q1z9 q2z9 q3z9 h9z9 tk9z9 F9z9 N9z9) | (refine post41 ?_; intro x1z9 x2z9 x3z9 x4z9 q1z9 h9z9 tk9z9 F9z9 N9z9))
  (try walk_at "my_fold")
  (try dsimp only)
  (try k_sweep)
  (try walk_at "my_fold")))
  (k_with "~my_tail" => first | assumption | (refine' List.mem_cons_of_mem _ ?_; walk_at "my_tail"))
  (k_with "~my_sub" => first | exact fun _ hpz9 => hpz9 | exact List.forall_mem_nil _ | (refine' List.forall_mem_cons.mpr ⟨?_, ?_⟩; k_mem; walk_at "my_sub") | (intro pz9 hpz9; walk_at "my_tail"))
  (k_with "k_units" => ktr_units)
  (k_with "k_mem" => first | exact List.mem_cons_self | ktr_member | (refine' List.mem_cons_of_mem _ ?_; k_mem))
  (k_with "~my_and" => first | assumption | (refine And.right ?_; walk_at "my_and"))
  (k_with "~my_fresh" => first | assumption | exact ne_of_lts (by assumption) | exact ne_of_allLt (by first | assumption | exact And.right (by assumption) | exact And.right (And.right (by assumption)) | exact And.right (And.right (And.right (by assumption))) | exact And.right (And.right (And.right (And.right (by assumption)))) | exact And.right (And.right (And.right (And.right (And.right (by assumption))))) | exact And.right (And.right (And.right (And.right (And.right (And.right (by assumption)))))) | exact And.right (And.right (And.right (And.right (And.right (And.right (And.right (by assumption))))))) | exact And.right (And.right (And.right (And.right (And.right (And.right (And.right (And.right (by assumption))))))))))
  (k_with "~my_off" => first | assumption | exact List.forall_mem_nil _ | (refine' List.forall_mem_cons.mpr ⟨?_, ?_⟩; (first | k_ne | exact (by assumption : ∀ pz9 ∈ (_ : Led), pz9.1 ≠ _) _ (by k_mem)); walk_at "my_off") | (intro pz9 hpz9; first | exact (by assumption : ∀ pz9 ∈ (_ : Led), pz9.1 ≠ _) pz9 hpz9 | exact (by assumption : ∀ pz9 ∈ (_ : Led), pz9.1 ≠ _) pz9 (by walk_at "my_tail") | (have h9z9 := ltN ((by assumption : ∀ pz9 ∈ (_ : Led), pz9.1 < _) pz9 hpz9); refine neN ?_; omega)))
  (k_with "k_all" => walk_at "my_off")
  (k_with "~my_lt" => first | assumption | exact And.left (by assumption) | exact And.left (And.right (by assumption)) | exact And.left (And.right (And.right (by assumption))) | exact And.left (And.right (And.right (And.right (by assumption)))) | exact And.left (And.right (And.right (And.right (And.right (by assumption))))) | exact And.left (And.right (And.right (And.right (And.right (And.right (by assumption)))))) | exact And.left (And.right (And.right (And.right (And.right (And.right (And.right (by assumption))))))) | exact And.left (And.right (And.right (And.right (And.right (And.right (And.right (And.right (by assumption)))))))) | exact And.left (And.right (And.right (And.right (And.right (And.right (And.right (And.right (And.right (by assumption))))))))) | exact And.left (And.right (And.right (And.right (And.right (And.right (And.right (And.right (And.right (And.right (by assumption)))))))))) | exact And.left (And.right (And.right (And.right (And.right (And.right (And.right (And.right (And.right (And.right (And.right (by assumption))))))))))) | exact And.left (And.right (And.right (And.right (And.right (And.right (And.right (And.right (And.right (And.right (And.right (And.right (by assumption)))))))))))) | exact And.left (And.right (And.right (And.right (And.right (And.right (And.right (And.right (And.right (And.right (And.right (And.right (And.right (by assumption))))))))))))) | exact And.left (And.right (And.right (And.right (And.right (And.right (And.right (And.right (And.right (And.right (And.right (And.right (And.right (And.right (by assumption)))))))))))))) | exact And.left (And.right (And.right (And.right (And.right (And.right (And.right (And.right (And.right (And.right (And.right (And.right (And.right (And.right (And.right (by assumption))))))))))))))) | exact And.left (And.right (And.right (And.right (And.right (And.right (And.right (And.right (And.right (And.right (And.right (And.right (And.right (And.right (And.right (And.right (by assumption)))))))))))))))))
  (k_with "k_ne" => (refine neN ?_; (try dsimp only); first | assumption | exact Ne.symm (by assumption) | (refine Nat.ne_of_lt ?_; walk_at "my_lt") | (refine Nat.ne_of_gt ?_; walk_at "my_lt") | omega))
  (k_with "~my_for" => (k_here; (rename Fr _ _ _ _ => lF'z9); (with_unfolding_all refine' for_any lF'z9 ?_); (try walk_at "my_fold"); walk_say "MY FOR"))
  (k_with "~my_look" => first | with_reducible assumption | rfl | assumption)
  (k_with "~exec For Name Name cons nil" => walk_at "my_for")
  (k_with "~exec For Name Call cons nil" => walk_at "my_for")
  (k_with "~exec For Name List cons nil" => walk_at "my_for")
  (k_with "~exec For Tuple Name cons nil" => walk_at "my_for")
  (k_with "~exec For Tuple Call cons nil" => walk_at "my_for")
  (k_with "~exec For Name BinOp cons nil" => walk_at "my_for")
  (k_with "~TurnA" => (dsimp only [TurnA]))
  (k_with "~eval ListComp" => (k_here; k_dflt (refine' comp_any (by k_asm) (by with_unfolding_all rfl) (by decide) (by rfl) (by decide) (by decide) ?_); (try k_fold); walk_say "MY COMP"))
  (k_with "~exec Assign cons ListComp" => (k_here; k_dflt (refine' comp_assign (by k_asm) (by rfl) (by with_unfolding_all rfl) (by with_unfolding_all rfl) (by decide) (by rfl) (by decide) (by rfl) (by rfl) (by decide) ?_); (try k_fold); walk_say "MY COMP"))
  (k_with "~TestElt" => (dsimp only [TestElt]; (try k_fold)))
  (k_with "~compareOp In str ref" => (k_here; k_dflt (refine' in_tuple_strs (tupK (by k_in) (by k_is)) (by repeat constructor) ?_)))
  (k_with "~compareOp In str ref" => (k_here; k_dflt (refine' in_tuple_strs (News.isTup (by k_asm) (by k_mem)) (by repeat constructor) ?_)))
  (k_with "~my_strs" => first | exact StrsIn.of _ | exact StrsIn.nil | exact StrsIn.one _ _)
  (k_with "~compareOp Eq ref ref" => (k_here; k_dflt (refine' eq_strs (by k_asm) (by k_mem) (by k_mem) (by walk_at "my_strs") (by walk_at "my_strs") (by k_units) ?_)))
  (k_with "~compareOp NotEq ref ref" => (k_here; k_dflt (refine' ne_strs (by k_asm) (by k_mem) (by k_mem) (by walk_at "my_strs") (by walk_at "my_strs") (by k_units) ?_)))
  (k_with "~my_size" => (simp only [List.size_toArray, strValues, List.length_map, Array.length_toList, List.length_append, List.length_dropLast, List.length_cons, List.length_nil, sizeLine_eq]; omega))
  (k_with "~subscriptTail Name Slice ref ref" => (k_here; (with_reducible show wpAny _ _ (subscriptTail _ (PySem.Expr.Slice none _ none _) (Value.ref _) (Value.ref _)) _ _ _); k_dflt (refine' kms_slice_lit (by k_asm) (by k_asm) (by exact News.isList (by k_asm) (by k_mem)) (by kmk_part) (by kmk_part) (by exact pick_dropLast _) ?_ (by with_unfolding_all rfl) (by kmk_pure) (by walk_at "my_size")); intro D'z9 h'z9 F'z9 N'z9 l1z9; (try k_lt l1z9); (try k_sweep)))
  (k_with "~subscriptTail Name UnaryOp ref int" => (k_here; (with_reducible show wpAny _ _ (subscriptTail _ _ (Value.ref _) (Value.int _ _)) _ _ _); k_dflt (refine' item_last (by exact News.isList (by k_asm) (by k_mem)) (by assumption) ?_)))
  (k_with "~binaryOp Add ref ref" => (k_here; k_dflt (refine' kmk_add_lit (by k_asm) (by k_asm) (by exact News.isList (by k_asm) (by k_mem)) (by exact News.isList (by k_asm) (by k_mem)) (by first | exact add_one _ _ _ | exact add_two _ _) ?_ (by walk_at "my_size")); intro D'z9 h'z9 F'z9 N'z9 l1z9; (try k_lt l1z9); (try k_sweep)))
  (k_with "~call ref" => (k_here; (with_reducible show wpAny _ _ (call (Value.ref 52) _) _ _ _); ktf_call (c_small _ _ _ _)))
  (k_with "~my_signs" => (law_clear; simp only [s_a, s_z, s_A, s_Z, s_0, s_9, lt1, str1_eq, e_us, e_co, e_mi, e_do, smallB_iff, startB_iff, charB_iff, ← decide_not, decide_eq_decide, decide_eq_true_eq, decide_eq_false_iff_not, decide_eq_true_eq, eq_comm (a := true), Bool.not_eq_true, Bool.not_eq_false] at *; omega))
  (k_with "~call ref" => (k_here; (with_reducible show wpAny _ _ (call (Value.ref 59) _) _ _ _); ktf_call (c_start _ _ _ _ (by assumption))))
  (k_with "~call ref" => (k_here; (with_reducible show wpAny _ _ (call (Value.ref 66) _) _ _ _); ktf_call (c_char _ _ _ _ (by assumption))))
  (k_with "~call ref" => (k_here; (with_reducible show wpAny _ _ (call (Value.ref 73) _) _ _ _); ktf_call (c_nmtoken _ _ _ _ (by assumption))))
  (k_with "~call ref" => (k_here; (with_reducible show wpAny _ _ (call (Value.ref 80) _) _ _ _); ktf_call (c_name _ _ _ _ (by assumption))))
  (k_with "~call ref" => (k_here; (with_reducible show wpAny _ _ (call (Value.ref 121) _) _ _ _); ktf_call (c_blank _ _ _ _ (by assumption))))
  (k_with "~call ref" => (k_here; (with_reducible show wpAny _ _ (call (Value.ref 128) _) _ _ _); ktf_call (c_norm _ _ _ _ _ _ (by assumption))))
  (k_with "~call ref" => (k_here; (with_reducible show wpAny _ _ (call (Value.ref 135) _) _ _ _); ktf_call (c_words _ _ _ _ _ _ (by assumption))))
  (k_with "~call ref" => (k_here; (with_reducible show wpAny _ _ (call (Value.ref 142) _) _ _ _); ktf_call (c_isword _ _ _ _ _ _ (by assumption))))
  (k_with "~call ref" => (k_here; (with_reducible show wpAny _ _ (call (Value.ref 149) _) _ _ _); ktf_call (c_fits _ _ _ _ _ _ _ _ _ _ _ _ _ _ _ _ _ _ _ _ (by assumption) (by assumption) (by k_mem) (by k_mem) (by k_mem) (by assumption))))
  (k_with "~call ref" => (k_here; (with_reducible show wpAny _ _ (call (Value.ref 566) _) _ _ _); ktf_call (c_lawword _ _ _ _ _ (by assumption) (by assumption))))
  (k_with "~call ref" => (k_here; (with_reducible show wpAny _ _ (call (Value.ref 561) _) _ _ _); ktf_call (c_parted _ _ _ _ (by assumption) (by assumption))))
  (k_with "~call builtin:len" => (k_here; (with_reducible show wpAny _ _ (call (Value.builtin _) [Value.ref _]) _ _ _); k_dflt (refine' len_at (by exact News.isList (by k_asm) (by k_mem)) (by first | omega | ((simp only [List.length_cons, List.length_nil, List.length_append, List.length_map, strValues]); omega)) ?_)))
  (k_with "~my_pick" => first | exact Pick.head | (refine' Pick.tail (by walk_at "my_pick")))
  (k_with "~call ref" => (k_here; (with_reducible show wpAny _ _ (call (Value.ref 542) _) _ _ _); ktr_call (c_take _ _ _ _ _ _ (by assumption) (by first | assumption | decide) (by first | assumption | decide) (by walk_at "my_off")) ()))
  (k_with "~call ref" => (k_here; (with_reducible show wpAny _ _ (call (Value.ref 549) _) _ _ _); ktr_call (c_one _ _ _ _ _ _ _ (by assumption) (by k_mem) (by first | assumption | exact Nat.le_of_ble_eq_true rfl) (by first | assumption | exact Nat.le_of_ble_eq_true rfl) (by walk_at "my_off")) ()))
  (k_with "~call ref" => (k_here; (with_reducible show wpAny _ _ (call (Value.ref 554) _) _ _ _); ktr_call (c_value _ _ _ _ (by assumption) (by walk_at "my_off")) ()))
  (k_with "~call ref" => (k_here; (with_reducible show wpAny _ _ (call (Value.ref 571) _) _ _ _); ktf_call (c_kind _ _ _ _ _ _ (by first | assumption | decide +kernel) (by k_asm))))
  (k_with "~my_tree" => first | assumption | (refine TreeIn.mono ?_ (by assumption); walk_at "my_sub"))
  (k_with "~call ref" => (k_here; (with_reducible show wpAny _ _ (call (Value.ref 367) _) _ _ _); ktf_call (c_row _ _ _ _ _ _ (by walk_at "my_tree") (by assumption) (by assumption))))
  (k_with "~call ref" => (k_here; (with_reducible show wpAny _ _ (call (Value.ref 444) _) _ _ _); ktf_call (c_tkind _ _ _ _ _ _ (by walk_at "my_tree") (by assumption) (by assumption))))
  (k_with "~call ref" => (k_here; (with_reducible show wpAny _ _ (call (Value.ref 451) _) _ _ _); ktf_call (c_tname _ _ _ _ _ _ (by walk_at "my_tree") (by assumption) (by assumption))))
  (k_with "~call ref" => (k_here; (with_reducible show wpAny _ _ (call (Value.ref 472) _) _ _ _); ktf_call (c_tvalue _ _ _ _ _ _ (by walk_at "my_tree") (by assumption) (by assumption))))
  (k_with "~call ref" => (k_here; (with_reducible show wpAny _ _ (call (Value.ref 486) _) _ _ _); ktf_call (c_children _ _ _ _ _ _ (by walk_at "my_tree") (by assumption) (by assumption))))
  (k_with "~call ref" => (k_here; (with_reducible show wpAny _ _ (call (Value.ref 493) _) _ _ _); ktf_call (c_attributes _ _ _ _ _ _ (by walk_at "my_tree") (by assumption) (by assumption))))
  (k_with "~call ref" => (k_here; (with_reducible show wpAny _ _ (call (Value.ref 451) _) _ _ _); ktf_call (c_tnameX _ _ _ _ _ _ _ (by walk_at "my_tree") (by assumption) (by assumption) (by first | assumption | exact rfl))))
  (k_with "k_ne" => (refine neN ?_; (try dsimp only); first | assumption | exact Ne.symm (by assumption) | (refine Nat.ne_of_lt ?_; walk_at "my_lt") | (refine Nat.ne_of_gt ?_; walk_at "my_lt") | omega | exact ne_of_mem (by assumption) (by k_mem) | exact Ne.symm (ne_of_mem (by assumption) (by k_mem))))
  (k_with "~exec While Compare cons nil" => (k_here; (rename Fr _ _ _ _ => lF'z9); (with_unfolding_all refine' while_any lF'z9 ?_); walk_say "MY WHILE"))
  (k_with "~my_ints" => first | exact IntsIn.of _ | exact IntsIn.nil | exact IntsIn.snoc _ _ _)
  (k_with "~compareOp Eq ref ref" => (k_here; k_dflt (refine' eq_ints (by k_asm) (by k_mem) (by k_mem) (by walk_at "my_ints") (by walk_at "my_ints") (by k_units) ?_)))
  (k_with "~compareOp NotEq ref ref" => (k_here; k_dflt (refine' ne_ints (by k_asm) (by k_mem) (by k_mem) (by walk_at "my_ints") (by walk_at "my_ints") (by k_units) ?_)))
  (k_with "~my_size" => (simp only [List.size_toArray, strValues, intVals, refVals, List.length_map, Array.length_toList, List.length_append, List.length_reverse, List.length_dropLast, List.length_cons, List.length_nil, sizeLine_eq]; omega))
  (k_with "~call builtin:list.append" => (k_here; (with_reducible show wpAny _ _ (call (Value.builtin _) [Value.ref _, _]) _ _ _); k_dflt (refine' append_my (by k_asm) (by k_asm) (by k_upd) (by walk_at "my_size") ?_); intro h'z9 F'z9 N'z9; (try k_sweep)))
  (k_with "~call builtin:list.pop" => (k_here; (with_reducible show wpAny _ _ (call (Value.builtin _) [Value.ref _]) _ _ _); k_dflt (refine' pop_my (by k_asm) (by k_asm) (by k_upd) (by walk_at "my_size") ?_); intro h'z9 F'z9 N'z9; (try k_sweep)))
  (k_with "~call builtin:list.extend" => (k_here; (with_reducible show wpAny _ _ (call (Value.builtin _) [Value.ref _, Value.ref _]) _ _ _); k_dflt (refine' extend_my (by k_asm) (by k_asm) (by k_mem) (by (intro k8z9; k_upd)) (by walk_at "my_size") ?_); intro k9z9 h'z9 F'z9 N'z9; (try dsimp only at N'z9); (try k_sweep)))
  (k_with "~subscriptTail Name Slice ref ref" => (k_here; (with_reducible show wpAny _ _ (subscriptTail _ (PySem.Expr.Slice none none (some _) _) (Value.ref _) (Value.ref _)) _ _ _); k_dflt (refine' rev_my (by k_asm) (by k_asm) (by exact News.isList (by k_asm) (by k_mem)) (by exact IsPart.int _ _) (by with_unfolding_all rfl) (by kmk_pure) (by walk_at "my_size") ?_); intro D'z9 h'z9 F'z9 N'z9 l1z9; (try k_lt l1z9); (try k_sweep)))
  (k_with "~my_dtd" => first | assumption | (refine DtdIn.mono ?_ (by assumption); walk_at "my_sub"))
  (k_with "~call ref" => (k_here; (with_reducible show wpAny _ _ (call (Value.ref 289) _) _ _ _); ktf_call (c_idname _ _ _ _ (by walk_at "my_dtd"))))
  (k_with "~call ref" => (k_here; (with_reducible show wpAny _ _ (call (Value.ref 277) _) _ _ _); ktf_call (c_rule _ _ _ _ _ _ _ (by walk_at "my_dtd") (by assumption))))
  (k_with "~call ref" => (k_here; (with_reducible show wpAny _ _ (call (Value.ref 156) _) _ _ _); ktf_call (c_walk _ _ _ _ _ _ (by walk_at "my_tree") (by assumption) (by assumption) (by assumption) (by assumption))))
  (k_with "~call ref" => (k_here; (with_reducible show wpAny _ _ (call (Value.ref 170) _) _ _ _); ktf_call (c_idtable _ _ _ _ _ _ (by walk_at "my_tree") (by walk_at "my_dtd") (by assumption) (by assumption))))
  (k_with "~my_tail" => first | assumption | (refine' List.mem_cons_of_mem _ ?_; walk_at "my_tail") | (refine' List.mem_append_left _ ?_; walk_at "my_tail") | (refine' List.mem_append_right _ ?_; walk_at "my_tail"))
  (k_with "k_mem" => first | exact List.mem_cons_self | ktr_member | (refine' List.mem_cons_of_mem _ ?_; k_mem) | (refine' List.mem_append_right _ ?_; k_mem) | (refine' List.mem_append_left _ ?_; k_mem))
  (k_with "~my_sub" => first | exact fun _ hpz9 => hpz9 | exact List.forall_mem_nil _ | (refine' List.forall_mem_cons.mpr ⟨?_, ?_⟩; k_mem; walk_at "my_sub") | (intro pz9 hpz9; walk_at "my_tail") | (refine' List.forall_mem_append.mpr ⟨?_, ?_⟩; walk_at "my_sub"; walk_at "my_sub"))
  (k_with "~call ref" => (k_here; (with_reducible show wpAny _ _ (call (Value.ref 184) _) _ _ _); ktf_call (c_broken _ _ _ _ _ _ (by walk_at "my_tree") (by walk_at "my_dtd") (by assumption) (by assumption))))
  (k_with "~call ref" => (k_here; (with_reducible show wpAny _ _ (call (Value.ref 177) _) _ _ _); ktf_call (c_refs _ _ _ _ _ _ _ _ (by walk_at "my_tree") (by walk_at "my_dtd") (by assumption) (by assumption) (by assumption) (by assumption) (by assumption))))
  (k_with "~call ref" => (k_here; (with_reducible show wpAny _ _ (call (Value.ref 189) _) _ _ _); ktf_call (c_referring _ _ _ _ _ _ _ _ (by walk_at "my_tree") (by walk_at "my_dtd") (by assumption) (by assumption))))
  (k_with "~my_below" => first | assumption | exact ktn_ltOf (by first | assumption | exact And.right (by assumption) | exact And.right (And.right (by assumption)) | exact And.right (And.right (And.right (by assumption))) | exact And.right (And.right (And.right (And.right (by assumption))))))
  (k_with "k_room" => ktr_room)
  (k_with "~subscriptTail Name Constant ref int" => (k_here; k_dflt (refine' item_at (by exact News.isList (by k_asm) (by k_mem)) (by decide) (by decide) (by assumption) ?_)))
  (k_with "~call ref" => (k_here; (with_reducible show wpAny _ _ (call (Value.ref 388) _) _ _ _); refine stopHere ?_))
  (k_with "~call ref" => (k_here; (with_reducible show wpAny _ _ (call (Value.ref 423) _) _ _ _); refine stopHere ?_))
  (k_with "~subscriptTail Subscript Constant ref int" => (k_here; k_dflt (refine' item_tupleT (by exact News.isTup (by k_asm) (by k_mem)) (by decide) (by decide) (by rfl) (by rfl) ?_)))
  (k_with "~call ref" => (k_here; (with_reducible show wpAny _ _ (call (Value.ref 561) _) _ _ _); ktf_call (c_partedB _ _ _ _ (by assumption) (by assumption))))
  (k_with "~exec If" => ((fail_if_success (with_reducible show wpAny _ _ _ (JoinQ _) _ _)); refine stopHere ?_))
  (k_with "~exec Assign cons IfExp" => ((fail_if_success (with_reducible show wpAny _ _ _ (JoinQ _) _ _)); refine stopHere ?_))
  (k_with "~binaryOp Mult ref int" => (k_here; k_dflt (refine' mul_flag (by k_asm) (by k_asm) (by k_mem) (by assumption) ?_); intro D'z9 h'z9 F'z9 N'z9 l1z9; (try k_lt l1z9); (try k_sweep)))
  (k_with "~binaryOp Add ref ref" => (k_here; k_dflt (refine' add_plain (by k_asm) (by k_asm) (by k_mem) (by k_mem) (by assumption) ?_); intro D'z9 h'z9 F'z9 N'z9 l1z9; (try k_lt l1z9); (try k_sweep)))
  trivial
set_option maxHeartbeats 8000000 in
theorem c_grown (w : World) (src : Addr) (o : Obj) (T0 : TreeS) (tkr : Tok) (news tl : Led) (ho : SrcO o) (hT : TreeIn tl T0) (hs : TSep T0) (hv : views T0 = [rootPN]) (hap : Apart news tl) (hsn : ∀ p ∈ news, p.1 ≠ src) (hst : ∀ p ∈ tl, p.1 ≠ src) :
    Con w 9 576 [.ref src, .ref T0.t, .int (((0 : Nat) : Nat) : Int) tkr] ((src, o) :: (news ++ tl)) (fun news' r => ∃ ra kr vs l9, (∃ T es us, TreeIn l9 T ∧ T.t = T0.t ∧ BldV (views T) es us ∧ us.length ≤ 6 ∧ TOk T ∧ DatAll l9 vs (es.map rowD) ∧ ∀ p ∈ news, p ∈ l9) ∧ r = .ref ra ∧ news' = (ra, listOf vs.toArray kr) :: l9) := by
  have hnt : ∀ p ∈ news ++ tl, p.1 ≠ src := List.forall_mem_append.mpr ⟨hsn, hst⟩
  have hgt0 : GT T0 T0 tl [] [] 1 := ⟨hT, hs, rfl, bld_root hv, by rw [hv]; exact List.forall_mem_cons.mpr ⟨⟨Nat.zero_le _, Nat.zero_le _, valT_nil⟩, List.forall_mem_nil _⟩, by have := views_len T0; rw [hv] at this; simp at this; omega⟩
  unfold Con; k_fill; intro loose mean mg mb dp un gd cn cs a ccd cl outer A₀ base h₀ L m s Q E B F X N Tp hk hdp hun hret; walk_at "my_enterC"
  rename Obj => oc
  rename Obj.data oc = _ => hoc
  rename _ ∧ AllLt _ _ => hl1
  obtain ⟨L9, hL, e9⟩ : ∃ z, (∀ p ∈ news ++ tl, p.1 < z) ∧ z = _ := ⟨_, ktn_ltOf hl1.2, rfl⟩
  subst e9
  k_steps
  (try walk_at "my_fold")
  rename Obj => o1
  rename SrcO o1 => ho1
  rename (0 : Int) ≤ _ => d0
  rename _ < (4 : Int) => d1
  obtain ⟨d, rfl⟩ := Int.eq_ofNat_of_zero_le d0
  have hd4 : d < 4 := by omega
  rename IsRange _ _ _ _ _ _ _ _ => hR
  have hcast : (3 + ((d : Nat) : Int)) = (((3 + d : Nat) : Nat) : Int) := by omega
  rename News _ _ _ _ => N1
  have N2 := cb_drop (news := (_, listOf #[] 0) :: (src, o1) :: (_, oc) :: (news ++ tl)) N1 (by walk_at "my_sub")
  obtain ⟨ra, e9⟩ := head_name N2
  subst e9
  have hsr : @Ne Nat src ra := by k_ne
  have hsc : @Ne Nat src (L9 + 1) := by k_ne
  have hrc : @Ne Nat ra (L9 + 1) := by k_ne
  have hrf0 : RF [src, ra, L9 + 1] news tl := ⟨List.forall_mem_cons.mpr ⟨hnt, List.forall_mem_cons.mpr ⟨by walk_at "my_fresh", List.forall_mem_cons.mpr ⟨by walk_at "my_off", List.forall_mem_nil _⟩⟩⟩, hap⟩
  clear N1
  refine iter_range (n := 3 + d) (fun m₀ n₀ i K => ∀ m₁ o9 oc9 kr vs rn tl9 T es us, GI src ra (L9 + 1) T0 d news i m₁ o9 oc9 vs rn tl9 T es us → K m₁ ((src, o9) :: (ra, listOf vs.toArray kr) :: (L9 + 1, oc9) :: (rn ++ tl9)))
    rfl hR (by rw [hcast]; exact rng_small _ (by omega)) (by rw [hcast]; exact rng_size _ (by omega)) (by k_asm) (cb_drop (news := (src, o1) :: (ra, listOf #[] 0) :: (L9 + 1, oc) :: (news ++ tl)) N2 (by walk_at "my_sub"))
    (fun K k => k _ o1 oc 0 [] news tl T0 [] [] ⟨ho1, ⟨_, by exact hoc⟩, hgt0, hrf0, fun _ hp => hp, .nil, rfl, by rfl, by rfl, ⟨_, by rfl⟩, by rfl, ⟨_, by rfl⟩⟩) ?_ ?_
  · intro I i t hi m₁ o9 oc9 kr vs rn tl9 T es us hG oI h tk _ off F₁ N₁
    have hg := hG.gt
    have ho9 := hG.so
    have hc9 := hG.oc
    have hl1' := hG.l1
    have hl2' := hG.l2
    have hl4' := hG.l4
    refine Exists.elim hG.l3 fun tr hl3' => Exists.elim hG.l5 fun tm hl5' => ?_
    have hfs := hG.rf.1 src (by simp)
    have hfr := hG.rf.1 ra (by simp)
    have hfc := hG.rf.1 (L9 + 1) (by simp)
    have hIs : @Ne Nat I src := fun e => off _ List.mem_cons_self e.symm
    have hIr : @Ne Nat I ra := fun e => off _ (List.mem_cons_of_mem _ List.mem_cons_self) e.symm
    have hIc : @Ne Nat I (L9 + 1) := fun e => off _ (List.mem_cons_of_mem _ (List.mem_cons_of_mem _ List.mem_cons_self)) e.symm
    have offI : ∀ p ∈ rn ++ tl9, p.1 ≠ I := fun p hp => off p (List.mem_cons_of_mem _ (List.mem_cons_of_mem _ (List.mem_cons_of_mem _ hp)))
    have hel : es.length = us.length := by have := congrArg List.length hg.bld.ids; simpa using this
    have hul := hG.len
    have hvl : vs.length = es.length := by have := hG.rows.length; simpa using this
    have hvs : vs.length ≤ 10 := by omega
    k_steps
    (try walk_at "my_fold")
    refine join_name (Str.ofString "above") (fun u n => ∃ o2 k t2, (SrcO o2 ∧ ParOk T es us k) ∧ u = some (.int ((k : Nat) : Int) t2) ∧ n = (src, o2) :: (ra, listOf vs.toArray kr) :: (L9 + 1, oc9) :: (I, oI) :: (rn ++ tl9)) (by k_asm) ?_ ?_
    · rcases i with _ | i
      · k_steps
        exact NameQ.intro (by k_asm) (by k_asm) (by walk_at "my_sub") rfl ⟨_, 0, tr, ⟨ho9, parOk_root hg.bld hul⟩, rfl, rfl⟩
      · obtain ⟨e0, hee0⟩ : ∃ e0, es[0]? = some e0 := ⟨_, List.getElem?_eq_getElem (by omega)⟩
        obtain ⟨e1, hee1⟩ : ∃ e1, es[es.length - 1]? = some e1 := ⟨_, List.getElem?_eq_getElem (by omega)⟩
        obtain ⟨rf, tf, of, pf, nf, hf1, hf2, -, -⟩ := rows_at hG.rows hee0
        obtain ⟨rt, tt, ot, pt, nt, ht1, ht2, -, -⟩ := rows_at hG.rows hee1
        have hlast : vs.getLast? = some (.ref rt) := by rw [List.getLast?_eq_getElem?, hvl]; exact ht1
        have hfirst : vs[(0 : Int).toNat]? = some (.ref rf) := hf1
        have pl := parOk_last hg.bld (e := e1) (by rw [List.getLast?_eq_getElem?]; exact hee1)
        have pf := parOk_first hg.bld hee0
        k_steps
        · exfalso; omega
        · rename _ ∈ (_ : List Value) => hm9
          rename SrcO _ => hs9
          rcases List.mem_cons.mp hm9 with rfl | hm9
          · exact NameQ.intro (by k_asm) (by k_asm) (by walk_at "my_sub") rfl ⟨_, e1.id, _, ⟨hs9, pl⟩, rfl, rfl⟩
          · rw [List.mem_singleton] at hm9
            subst hm9
            exact NameQ.intro (by k_asm) (by k_asm) (by walk_at "my_sub") rfl ⟨_, e0.id, _, ⟨hs9, pf⟩, rfl, rfl⟩
    · rintro u h2 tk2 n2 F2 N2 ⟨o2, k, t2, ⟨ho2, nd, bb, hn, hkd, hstep⟩, rfl, rfl⟩
      clear N₁ F₁
      have g1 := hg.tree.i
      rw [hg.addr] at g1
      have g2 := hg.tree.d
      k_steps
      (try walk_at "my_fold")
      have hap2 : Apart ((src, o2) :: (ra, listOf vs.toArray kr) :: (L9 + 1, oc9) :: (I, oI) :: rn) tl9 := List.forall_mem_cons.mpr ⟨fun q hq => hfs q (List.mem_append_right _ hq), List.forall_mem_cons.mpr ⟨fun q hq => hfr q (List.mem_append_right _ hq), List.forall_mem_cons.mpr ⟨fun q hq => hfc q (List.mem_append_right _ hq), List.forall_mem_cons.mpr ⟨fun q hq => offI q (List.mem_append_right _ hq), hG.rf.2⟩⟩⟩⟩
      unfold StopHere
      ktf_call (c_addelA w T0.t T nd k _ _ _ _ ((src, o2) :: (ra, listOf vs.toArray kr) :: (L9 + 1, oc9) :: (I, oI) :: rn) tl9 hg.addr hg.tree hg.sep (hg.tsmall (by omega)) hn hkd hap2)
      rename TreeIn _ _ ∧ _ => hf
      rename List (Addr × Obj) => tlA
      rename TreeS => T2
      have hg2 := hg.kid hn ⟨hf.1, hf.2.1, hf.2.2.2.1⟩ hf.2.2.2.2 hstep
      have f3 := hf.2.2.1
      rw [views_len, show 1 + 4 * i + 1 = 2 + 4 * i + 0 by omega] at hg2
      clear hf g1 g2
      rename News _ _ _ _ => N3
      simp only [List.cons_append] at N3
      have hrfA : RF [src, ra, L9 + 1, I] rn tlA := ⟨List.forall_mem_cons.mpr ⟨List.forall_mem_append.mpr ⟨fun p hp => hfs p (List.mem_append_left _ hp), f3 _ List.mem_cons_self⟩, List.forall_mem_cons.mpr ⟨List.forall_mem_append.mpr ⟨fun p hp => hfr p (List.mem_append_left _ hp), f3 _ (List.mem_cons_of_mem _ List.mem_cons_self)⟩, List.forall_mem_cons.mpr ⟨List.forall_mem_append.mpr ⟨fun p hp => hfc p (List.mem_append_left _ hp), f3 _ (List.mem_cons_of_mem _ (List.mem_cons_of_mem _ List.mem_cons_self))⟩,
        List.forall_mem_cons.mpr ⟨List.forall_mem_append.mpr ⟨fun p hp => offI p (List.mem_append_left _ hp), f3 _ (List.mem_cons_of_mem _ (List.mem_cons_of_mem _ (List.mem_cons_of_mem _ List.mem_cons_self)))⟩, List.forall_mem_nil _⟩⟩⟩⟩, fun p hp => f3 p (List.mem_cons_of_mem _ (List.mem_cons_of_mem _ (List.mem_cons_of_mem _ (List.mem_cons_of_mem _ hp))))⟩
      have gs1 := hrfA.1 src (by simp)
      have gr1 := hrfA.1 ra (by simp)
      have gc1 := hrfA.1 (L9 + 1) (by simp)
      have gI1 := hrfA.1 I (by simp)
      have ga1 := hrfA.2
      k_steps
      (try walk_at "my_fold")
      rename News _ _ _ _ => N4
      have N5 := cb_drop (news := (_, listOf #[.str (Str.ofString "i") _, .str (Str.ofString "r") _, .str (Str.ofString "s") _] 0) :: (_, listOf #[] 0) :: (src, o2) :: (ra, listOf vs.toArray kr) :: (L9 + 1, oc9) :: (I, oI) :: (rn ++ tlA)) N4 (by walk_at "my_sub")
      obtain ⟨na, e9⟩ := head_name N5
      subst e9
      obtain ⟨pa, e9⟩ := head_name fun p hp => N5 p (List.mem_cons_of_mem _ hp)
      subst e9
      obtain ⟨its, hits⟩ := arr_name N5
      rw [← hits] at N5
      clear N4
      refine iter_list (fun m₀ n₀ j K => ∀ m₁ o3 oc3 rn' tl3 T3 ats ov pq kp pvs, GJ src ra (L9 + 1) I T0 ((na, listOf its 0) :: rn) es (us ++ [(T.nodes.length, bb)]) (2 + 4 * i) T.nodes.length i d j m₁ o3 oc3 rn' tl3 T3 ats ov pq kp pvs → K m₁ ((src, o3) :: (ra, listOf vs.toArray kr) :: (L9 + 1, oc3) :: (I, oI) :: (rn' ++ tl3)))
        rfl (by k_asm) (cb_drop (news := (src, o2) :: (ra, listOf vs.toArray kr) :: (L9 + 1, oc9) :: (I, oI) :: (((na, listOf its 0) :: (pa, listOf #[] 0) :: rn) ++ tlA)) N5 (by walk_at "my_sub")) (.inr ⟨_, by k_mem, rfl, _, rfl⟩)
        (fun K k => k _ o2 oc9 ((na, listOf its 0) :: (pa, listOf #[] 0) :: rn) tlA T2 [] .none pa 0 [] ⟨ho2, hc9, hg2, ?rf0, List.forall_mem_cons.mpr ⟨List.mem_cons_self, fun p hp => List.mem_cons_of_mem _ (List.mem_cons_of_mem _ hp)⟩, .none, List.mem_cons_of_mem _ List.mem_cons_self, .nil, Nat.zero_le _, fun _ hq => (nomatch hq),
          by exact hl1', by exact hl2', ⟨_, by rfl⟩, by exact hl4', ⟨_, by exact hl5'⟩, ⟨_, by rfl⟩, by rfl, by rfl, ⟨_, by exact hl3'⟩⟩) ?_ ?_
      case rf0 => exact RF.add4b (p1 := o2) (p2 := listOf vs.toArray kr) (p3 := oc9) (p4 := oI) (RF.add4 (p1 := o2) (p2 := listOf vs.toArray kr) (p3 := oc9) (p4 := oI) hrfA (by walk_at "my_fresh")) (by walk_at "my_fresh")
      · intro I2 j v hv3
        intro m₁ o3 oc3 rn' tl3 T3 ats ov pq kp pvs hJ oI2 h3 tk3 S2 off2 F₃ N₃
        (try walk_at "my_fold")
        rw [hits] at hv3
        obtain ⟨nm, tn, hjn, rfl⟩ := ns3_at hv3
        have hg3 := hJ.gt
        have ho3 := hJ.so
        have hna : (na, listOf its 0) ∈ rn' := hJ.sub _ List.mem_cons_self
        have g1' := hg3.tree.i
        rw [hg3.addr] at g1'
        have g2' := hg3.tree.d
        have e1 := hJ.l1
        have e2 := hJ.l2
        have e4 := hJ.l4
        have e7 := hJ.l7
        have e8 := hJ.l8
        refine Exists.elim hJ.oc fun v3 hc3 => Exists.elim hJ.l3 fun t3' e3 => Exists.elim hJ.l5 fun t5' e5 => Exists.elim hJ.l6 fun t6' e6 => Exists.elim hJ.l9 fun t9' e9' => ?_
        have k1 : @Ne Nat src I2 := off2 _ List.mem_cons_self
        have k2 : @Ne Nat ra I2 := off2 _ (List.mem_cons_of_mem _ List.mem_cons_self)
        have k3 : @Ne Nat (L9 + 1) I2 := off2 _ (List.mem_cons_of_mem _ (List.mem_cons_of_mem _ List.mem_cons_self))
        have k4 : @Ne Nat I I2 := off2 _ (List.mem_cons_of_mem _ (List.mem_cons_of_mem _ (List.mem_cons_of_mem _ List.mem_cons_self)))
        have off4 : ∀ p ∈ rn' ++ tl3, p.1 ≠ I2 := fun p hp => off2 p (List.mem_cons_of_mem _ (List.mem_cons_of_mem _ (List.mem_cons_of_mem _ (List.mem_cons_of_mem _ hp))))
        have s3 := hJ.rf.1 src (by simp)
        have r3 := hJ.rf.1 ra (by simp)
        have c3 := hJ.rf.1 (L9 + 1) (by simp)
        have i3 := hJ.rf.1 I (by simp)
        k_steps
        (try walk_at "my_fold")
        refine join_name (Str.ofString "value") (fun u n => ∃ o4, (SrcO o4 ∧ VOpt ValOk u) ∧ n = (src, o4) :: (ra, listOf vs.toArray kr) :: (L9 + 1, oc3) :: (I, oI) :: (I2, oI2) :: (rn' ++ tl3)) (by k_asm) ?_ ?_
        · k_steps
          all_goals first
            | exact NameQ.intro (by k_asm) (by k_asm) (by walk_at "my_sub") rfl ⟨_, ⟨by assumption, .inl rfl⟩, rfl⟩
            | exact NameQ.intro (by k_asm) (by k_asm) (by walk_at "my_sub") rfl ⟨_, ⟨by assumption, .inr ⟨_, _, rfl, by assumption⟩⟩, rfl⟩
        rintro u h4 tk4 n4 F4 N4 ⟨o4, ⟨ho4, hu4⟩, rfl⟩
        clear N₃ F₃
        k_steps
        (try walk_at "my_fold")
        refine join_name (Str.ofString "value") (fun u n => ∃ o4, (SrcO o4 ∧ VOpt ValOk u) ∧ n = (src, o4) :: (ra, listOf vs.toArray kr) :: (L9 + 1, oc3) :: (I, oI) :: (I2, oI2) :: (rn' ++ tl3)) (by k_asm) ?_ ?_
        · k_steps
          all_goals first
            | exact NameQ.intro (by k_asm) (by k_asm) (by walk_at "my_sub") upd_same ⟨o4, ⟨ho4, hu4⟩, rfl⟩
            | exact NameQ.intro (by k_asm) (by k_asm) (by walk_at "my_sub") rfl ⟨o4, ⟨ho4, .inr ⟨_, _, rfl, valOk_k⟩⟩, rfl⟩
            | walk_at "my_show"
        clear N4 F4 hu4
        rintro u h5 tk5 n5 F5 N5 ⟨o5, ⟨ho5, hu5⟩, rfl⟩
        k_steps
        (try walk_at "my_fold")
        refine join_name (Str.ofString "value") (fun u n => ∃ o4, (SrcO o4 ∧ VOpt ValT u) ∧ n = (src, o4) :: (ra, listOf vs.toArray kr) :: (L9 + 1, oc3) :: (I, oI) :: (I2, oI2) :: (rn' ++ tl3)) (by k_asm) ?_ ?_
        · rcases hu5 with rfl | ⟨x, t5, rfl, hx5⟩
          · k_steps
            all_goals first
              | exact NameQ.intro (by k_asm) (by k_asm) (by walk_at "my_sub") upd_same ⟨o5, ⟨ho5, .inl rfl⟩, rfl⟩
              | exact NameQ.intro (by k_asm) (by k_asm) (by walk_at "my_sub") rfl ⟨o5, ⟨ho5, .inr ⟨_, _, rfl, valT_k valOk_nil⟩⟩, rfl⟩
              | walk_at "my_show"
          · have hxl2 : x.length ≤ 12 := hx5.2
            k_steps
            all_goals first
              | exact NameQ.intro (by k_asm) (by k_asm) (by walk_at "my_sub") upd_same ⟨o5, ⟨ho5, .inr ⟨_, _, rfl, valT_ok hx5⟩⟩, rfl⟩
              | exact NameQ.intro (by k_asm) (by k_asm) (by walk_at "my_sub") rfl ⟨o5, ⟨ho5, .inr ⟨_, _, rfl, valT_k hx5⟩⟩, rfl⟩
              | walk_at "my_show"
        clear N5 F5 hu5
        rintro u h6 tk6 n6 F6 N6 ⟨o6, ⟨ho6, hu6⟩, rfl⟩
        k_steps
        (try walk_at "my_fold")
        refine join_at _ ?_ (fun _ _ h => h)
        rcases hu6 with rfl | ⟨x, t6, rfl, hx6⟩
        · k_steps
          unfold JoinQ
          k_steps
          refine TE.intro (news' := (src, o6) :: (ra, listOf vs.toArray kr) :: (L9 + 1, oc3) :: (I, oI) :: (rn' ++ tl3)) (by k_asm) (by k_asm) (by walk_at "my_sub") (List.forall_mem_cons.mpr ⟨k1, List.forall_mem_cons.mpr ⟨k2, List.forall_mem_cons.mpr ⟨k3, List.forall_mem_cons.mpr ⟨k4, off4⟩⟩⟩⟩) (.inr ⟨_, by k_mem, rfl, _, rfl⟩)
            (fun K k => k _ o6 oc3 rn' tl3 T3 ats ov pq kp pvs ⟨ho6, hJ.oc, ⟨hg3.tree, hg3.sep, hg3.addr, hg3.bld, hg3.vok, Nat.le_succ_of_le hg3.small⟩, hJ.rf, hJ.sub, hJ.own, hJ.pin, hJ.prs, Nat.le_trans hJ.len (by omega), (fun q hq => (hJ.nms q hq).elim fun j' h => ⟨j', Nat.lt_succ_of_lt h.1, h.2⟩), by exact e1, by exact e2, ⟨_, by exact e3⟩, by exact e4, ⟨_, by exact e5⟩, ⟨_, by exact e6⟩, by exact e7, by exact e8, ⟨_, by exact e9'⟩⟩)
        · k_steps
          (try walk_at "my_fold")
          have hxa := alph_all hx6.1
          have hxz : x.cps.size ≤ 1000 := by have := hx6.2; omega
          refine Exists.elim hg3.last fun nd3 hn3 => ?_
          have n31 := hn3.1
          have hap3 : Apart ((src, o6) :: (ra, listOf vs.toArray kr) :: (L9 + 1, oc3) :: (I, oI) :: (I2, oI2) :: rn') tl3 := List.forall_mem_cons.mpr ⟨fun q hq => s3 q (List.mem_append_right _ hq), List.forall_mem_cons.mpr ⟨fun q hq => r3 q (List.mem_append_right _ hq), List.forall_mem_cons.mpr ⟨fun q hq => c3 q (List.mem_append_right _ hq), List.forall_mem_cons.mpr ⟨fun q hq => i3 q (List.mem_append_right _ hq), List.forall_mem_cons.mpr ⟨fun q hq => off4 q (List.mem_append_right _ hq), hJ.rf.2⟩⟩⟩⟩⟩
          unfold StopHere
          ktf_call (c_setattrA w T0.t T3 nd3 T.nodes.length nm x _ _ _ _ _ ((src, o6) :: (ra, listOf vs.toArray kr) :: (L9 + 1, oc3) :: (I, oI) :: (I2, oI2) :: rn') tl3 hg3.addr hg3.tree hg3.sep (hg3.tsmall (by have := ns3_lt hjn; omega)) n31 hn3.2.1 hap3 (GT.free hn3.2.2.1 hn3.2.2.2 (names_free hJ.nms hjn)))
          rename TreeIn _ _ ∧ _ => hf
          rename List (Addr × Obj) => tl4
          rename TreeS => T4
          have hg4 := hg3.attr n31 (ns3_cases hjn) hx6 ⟨hf.1, hf.2.1, hf.2.2.2.1⟩ hf.2.2.2.2
          have f3' := hf.2.2.1
          clear hf hn3 n31 hap3
          rename News _ _ _ _ => N7
          simp only [List.cons_append] at N7
          have hRF : RF [src, ra, L9 + 1, I, I2] rn' tl4 := ⟨List.forall_mem_cons.mpr ⟨List.forall_mem_append.mpr ⟨fun p hp => s3 p (List.mem_append_left _ hp), f3' _ List.mem_cons_self⟩, List.forall_mem_cons.mpr ⟨List.forall_mem_append.mpr ⟨fun p hp => r3 p (List.mem_append_left _ hp), f3' _ (List.mem_cons_of_mem _ List.mem_cons_self)⟩, List.forall_mem_cons.mpr ⟨List.forall_mem_append.mpr ⟨fun p hp => c3 p (List.mem_append_left _ hp), f3' _ (List.mem_cons_of_mem _ (List.mem_cons_of_mem _ List.mem_cons_self))⟩,
            List.forall_mem_cons.mpr ⟨List.forall_mem_append.mpr ⟨fun p hp => i3 p (List.mem_append_left _ hp), f3' _ (List.mem_cons_of_mem _ (List.mem_cons_of_mem _ (List.mem_cons_of_mem _ List.mem_cons_self)))⟩, List.forall_mem_cons.mpr ⟨List.forall_mem_append.mpr ⟨fun p hp => off4 p (List.mem_append_left _ hp), f3' _ (List.mem_cons_of_mem _ (List.mem_cons_of_mem _ (List.mem_cons_of_mem _ (List.mem_cons_of_mem _ List.mem_cons_self))))⟩, List.forall_mem_nil _⟩⟩⟩⟩⟩,
            fun p hp => f3' p (List.mem_cons_of_mem _ (List.mem_cons_of_mem _ (List.mem_cons_of_mem _ (List.mem_cons_of_mem _ (List.mem_cons_of_mem _ hp)))))⟩
          have s4 := hRF.1 src (by simp)
          have r4 := hRF.1 ra (by simp)
          have c4 := hRF.1 (L9 + 1) (by simp)
          have i4 := hRF.1 I (by simp)
          have o4' := hRF.1 I2 (by simp)
          k_steps
          (try walk_at "my_fold")
          rename Obj => oc7
          rename Obj.data oc7 = _ => hc7
          refine join_name (Str.ofString "own") (fun u n => ∃ ov' rx, (DatIn (rx ++ rn') ov' (ownD (ats ++ [(T3.nodes.length, nm, x)])) ∧ RF [src, ra, L9 + 1, I, I2] (rx ++ rn') tl4) ∧ u = some ov' ∧ n = (src, o6) :: (ra, listOf vs.toArray kr) :: (L9 + 1, oc7) :: (I, oI) :: (I2, oI2) :: ((rx ++ rn') ++ tl4)) (by k_asm) ?_ ?_
          · k_steps
            · rename (nm == _) = true => hq
              rename List (Str × Tok) => ws
              rename List.map _ ws = partB x => hws
              exact NameQ.intro (by k_asm) (by k_asm) (by walk_at "my_sub") rfl ⟨_, [(_, _)], ⟨own_next hJ.nms hjn hq hws, hRF.one (by walk_at "my_fresh")⟩, rfl, rfl⟩
            · rename (nm == _) = false => hq
              exact NameQ.intro (by k_asm) (by k_asm) (by walk_at "my_sub") rfl ⟨ov, [], ⟨own_keep hJ.own hq, hRF⟩, rfl, rfl⟩
          rintro u h8 tk8 n8 F8 N9 ⟨ov', rx, ⟨hown, hRF2⟩, rfl, rfl⟩
          k_steps
          (try walk_at "my_fold")
          rename List (Str × Tok) => ws
          rename List.map _ ws = partB x => hws
          refine comp_listK (rest := (src, o6) :: (ra, listOf vs.toArray kr) :: (L9 + 1, oc7) :: (I, oI) :: (I2, oI2) :: ((rx ++ rn') ++ tl4)) (fun n₀ j K => ∀ ys tlp, DatAll tlp ys (pd (((partB x).take j).map fun z => (T3.nodes.length, z))) → RF [src, ra, L9 + 1, I, I2] (tlp ++ (rx ++ rn')) tl4 → K ys (tlp ++ n₀)) rfl (by k_asm) (by k_asm) (by k_mem) (by walk_at "my_sub") (plen hws hxz) rfl rfl (fun K k => by exact k [] [] .nil hRF2) ?_ ?_
          · intro j2 v2 g hv9
            obtain ⟨p, hp, rfl⟩ := strAtL hv9
            have hpx : (partB x)[j2]? = some p.1 := map_at hws hp
            intro I3 ys tlp hdat hrf oI3 C oC D3 h9 tk9 m₂ E' S9 hoC hB F₉ N₉ o3' ne
            dsimp only [BndN] at hB
            dsimp only [TestElt]
            have N10 := dup_mem (d := (L9 + 1, oc7)) (List.mem_append_right _ (by k_mem)) N₉
            clear N₉
            k_steps
            refine LCg.CompEnd.intro (by k_asm) (by k_asm) ((_, _) :: (tlp ++ _)) (by walk_at "my_sub") ⟨⟨by k_ne, by k_ne, by k_ne⟩, o3'⟩ (.inr ⟨_, List.mem_cons_of_mem _ (List.mem_append_right _ List.mem_cons_self), rfl, _, rfl⟩) (fun K k => k _ ((_, _) :: tlp) ?_ ?_)
            · rw [pd_take hpx]
              exact (hdat.mono fun _ hp => List.mem_cons_of_mem _ hp).append (DatAll.one (DatIn.tuple (vs := [_, _]) List.mem_cons_self (.cons (.int _ _) (.cons (.str _ _) .nil))))
            · exact hrf.tup (show ∀ p ∈ tlp ++ _, p.1 ≠ _ from by walk_at "my_fresh")
          intro g ys tlp hdat hrf D3 h9 tk9 F₉ N₉ o1'
          have N10 := cb_drop N₉ sub_tups
          clear N₉
          have hpaM : (pq, listOf (List.toArray pvs) kp) ∈ (tlp ++ (rx ++ rn')) ++ tl4 := List.mem_append_left _ (List.mem_append_right _ (List.mem_append_right _ hJ.pin))
          have N11 := dup2 hpaM N10
          clear N10
          have hwl : ws.length ≤ 1001 := by have := part_len hxz; rw [← hws, List.length_map] at this; exact this
          have hyl : ys.length ≤ 1001 := by have := hdat.length; simp only [pd, List.length_map, List.length_take] at this; have := part_len hxz; omega
          have hyl2 : ys.length ≤ 10000 := by omega
          have hpl := hJ.len
          have hj3 := ns3_lt hjn
          have hzl : pvs.length + (if (nm != Str.ofString "i") = true then ys else []).length ≤ 1000000 := by
            split
            · omega
            · simp only [List.length_nil]; omega
          k_steps
          unfold JoinQ
          k_steps
          (try walk_at "my_fold")
          rename News _ _ _ _ => N12
          obtain ⟨d9, e9⟩ := head_name N12
          subst e9
          have hRF3 := rf_head2 N12 hrf (by walk_at "my_fresh")
          have hst := pairs_next (e := (d9, listOf (pvs ++ if (nm != Str.ofString "i") = true then ys else []).toArray 0)) (nm := nm) (k := T3.nodes.length) (rx := rx) hws hJ.prs hdat
          exact TE.intro (news' := (src, o6) :: (ra, listOf vs.toArray kr) :: (L9 + 1, oc7) :: (I, oI) :: (((d9, listOf (pvs ++ if (nm != Str.ofString "i") = true then ys else []).toArray 0) :: (tlp ++ (rx ++ rn'))) ++ tl4)) (by k_asm) (by k_asm) (by walk_at "my_sub") (List.forall_mem_cons.mpr ⟨k1, List.forall_mem_cons.mpr ⟨k2, List.forall_mem_cons.mpr ⟨k3, List.forall_mem_cons.mpr ⟨k4, hRF3.1 I2 (by simp)⟩⟩⟩⟩)
            (.inr ⟨_, List.mem_cons_of_mem _ (List.mem_cons_of_mem _ (List.mem_cons_of_mem _ (List.mem_cons_of_mem _ (List.mem_append_left _ (List.mem_cons_of_mem _ (List.mem_append_right _ (List.mem_append_right _ hna))))))), rfl, _, rfl⟩)
            (fun K k => k _ o6 oc7 ((d9, listOf (pvs ++ if (nm != Str.ofString "i") = true then ys else []).toArray 0) :: (tlp ++ (rx ++ rn'))) tl4 T4 (ats ++ [(T3.nodes.length, nm, x)]) ov' d9 0 (pvs ++ if (nm != Str.ofString "i") = true then ys else []) ⟨ho6, ⟨_, hc7⟩, hg4, hRF3.less (by simp), (fun p hp => List.mem_cons_of_mem _ (List.mem_append_right _ (List.mem_append_right _ (hJ.sub p hp)))), hown.mono (fun p hp => List.mem_cons_of_mem _ (List.mem_append_right _ hp)), List.mem_cons_self, hst, len_next _ hJ.len hyl, names_next hJ.nms hjn,
              by exact e1, by exact e2, ⟨_, by exact e3⟩, by exact e4, ⟨_, by exact e5⟩, ⟨_, by exact e6⟩, by rfl, by rfl, ⟨_, by exact e9'⟩⟩)
      · intro m₁ o3 oc3 rn' tl3 T3 ats ov pq kp pvs hJ h3 tk3 F₃ N₃
        have e4 := hJ.l4
        have e7 := hJ.l7
        have e8 := hJ.l8
        refine Exists.elim hJ.l3 fun t3' e3 => ?_
        have hg3 := hJ.gt
        have hsz9 : its.size = 3 := by rw [hits]; rfl
        rw [hsz9, show 2 + 4 * i + 3 = 1 + 4 * (i + 1) by omega] at hg3
        have hpin := hJ.pin
        have hf1 := hJ.rf.1 src (by simp)
        have hf2 := hJ.rf.1 ra (by simp)
        have hf3 := hJ.rf.1 (L9 + 1) (by simp)
        have hf4 := hJ.rf.1 I (by simp)
        k_steps
        (try walk_at "my_fold")
        rename News _ _ _ _ => N9
        obtain ⟨d9, e9⟩ := head_name N9
        subst e9
        have hRF9 := RF.add4 (p1 := o3) (p2 := listOf vs.toArray kr) (p3 := oc3) (p4 := oI) (a := d9) (o := { cls := .type "tuple", data := .seq #[.int ((T.nodes.length : Nat) : Int) t3', ov, .ref pq] }) hJ.rf (by walk_at "my_fresh")
        refine TE.intro (news' := (src, o3) :: (ra, listOf (vs ++ [Value.ref d9]).toArray _) :: (L9 + 1, oc3) :: (((d9, { cls := .type "tuple", data := .seq #[.int ((T.nodes.length : Nat) : Int) t3', ov, .ref pq] }) :: rn') ++ tl3)) (by k_asm) (by k_asm) (by walk_at "my_sub") (List.forall_mem_cons.mpr ⟨Ne.symm hIs, List.forall_mem_cons.mpr ⟨Ne.symm hIr, List.forall_mem_cons.mpr ⟨Ne.symm hIc, hRF9.1 I (by simp)⟩⟩⟩) trivial
          (fun K k => k _ o3 oc3 _ (vs ++ [.ref d9]) ((d9, _) :: rn') tl3 T3 (es ++ [⟨T.nodes.length, ats⟩]) (us ++ [(T.nodes.length, bb)]) ⟨hJ.so, hJ.oc, hg3, hRF9.less (by simp), (fun p hp => List.mem_cons_of_mem _ (hJ.sub p (List.mem_cons_of_mem _ (hG.sub p hp)))), ?rw, by rw [List.length_append, hul]; rfl, by exact hJ.l1, by exact hJ.l2, ?l3, by exact hJ.l4, ?l5⟩)
        case rw =>
          rw [List.map_append]
          exact (hG.rows.mono fun p hp => List.mem_cons_of_mem _ (hJ.sub p (List.mem_cons_of_mem _ hp))).append (DatAll.one (DatIn.tuple (vs := [_, ov, .ref pq]) List.mem_cons_self (.cons (.int _ _) (.cons (hJ.own.mono fun _ hp => List.mem_cons_of_mem _ hp) (.cons (.list (List.mem_cons_of_mem _ hpin) (hJ.prs.mono fun _ hp => List.mem_cons_of_mem _ hp)) .nil)))))
        case l3 => exact hJ.l9
        case l5 => exact hJ.l5
  · intro m₁ o9 oc9 kr vs rn tl9 T es us hG h tk F₁ N₁
    have hl4' := hG.l4
    k_steps
    exact hret _ _ _ _ (by k_asm) (cb_drop (by k_asm) (by walk_at "my_sub")) ⟨ra, kr, vs, rn ++ tl9, ⟨T, es, us, hG.gt.tree.mono (fun _ hp => List.mem_append_right _ hp), hG.gt.addr, hG.gt.bld, by have := hG.len; omega, (hG.gt.tsmall (by omega)).ok, hG.rows.mono (fun _ hp => List.mem_append_left _ hp), fun p hp => List.mem_append_left _ (hG.sub p hp)⟩, rfl, rfl⟩
end

-- _law_tree_right: what stands ahead of the loop, put in order
def ks3 : List Str := [Str.ofString "ID", Str.ofString "IDREF", Str.ofString "IDREFS"]
/-- the six that are turned later stand out; all else is `nb` -/
def out6 (src c1 c2 rl tx td : Addr) (o o1 o2 orl otx otd : Obj) : Led := [(src, o), (c1, o1), (c2, o2), (rl, orl), (tx, otx), (td, otd)]
structure RB (ad lx dx dd : Addr) (six nb : Led) (its : Array Value) : Prop where
  lst : (lx, listOf its 0) ∈ nb
  tup : ∀ (i : Nat) (v : Value), its[i]? = some v → ∃ tp nm kd t u n, v = .ref tp ∧ ns3[i]? = some nm ∧ ks3[i]? = some kd ∧ (tp, ({ cls := .type "tuple", data := .seq #[.str nm t, .str kd u] n } : Obj)) ∈ nb
  size : its.size = 3
  inst : (dx, instObj 313 dd) ∈ nb
  ad : ∀ p ∈ six ++ nb, p.1 ≠ ad
  six : ∀ p ∈ nb, ∀ q ∈ six, q.1 ≠ p.1
structure Six (src c1 c2 td tx rl : Addr) : Prop where
  b1 : @LT.lt Nat _ src c1
  b2 : @LT.lt Nat _ c1 c2
  b3 : @LT.lt Nat _ c2 td
  b4 : @LT.lt Nat _ td tx
  b5 : @LT.lt Nat _ tx rl
theorem mm0 {y : Addr × Obj} {l : Led} : y ∈ y :: l := List.mem_cons_self
theorem mm1 {x0 y : Addr × Obj} {l : Led} : y ∈ x0 :: y :: l := List.mem_cons_of_mem _ mm0
theorem mm2 {x0 x1 y : Addr × Obj} {l : Led} : y ∈ x0 :: x1 :: y :: l := List.mem_cons_of_mem _ mm1
theorem mm3 {x0 x1 x2 y : Addr × Obj} {l : Led} : y ∈ x0 :: x1 :: x2 :: y :: l := List.mem_cons_of_mem _ mm2
theorem mm4 {x0 x1 x2 x3 y : Addr × Obj} {l : Led} : y ∈ x0 :: x1 :: x2 :: x3 :: y :: l := List.mem_cons_of_mem _ mm3
theorem mm5 {x0 x1 x2 x3 x4 y : Addr × Obj} {l : Led} : y ∈ x0 :: x1 :: x2 :: x3 :: x4 :: y :: l := List.mem_cons_of_mem _ mm4
theorem mm6 {x0 x1 x2 x3 x4 x5 y : Addr × Obj} {l : Led} : y ∈ x0 :: x1 :: x2 :: x3 :: x4 :: x5 :: y :: l := List.mem_cons_of_mem _ mm5
theorem mm7 {x0 x1 x2 x3 x4 x5 x6 y : Addr × Obj} {l : Led} : y ∈ x0 :: x1 :: x2 :: x3 :: x4 :: x5 :: x6 :: y :: l := List.mem_cons_of_mem _ mm6
theorem mm8 {x0 x1 x2 x3 x4 x5 x6 x7 y : Addr × Obj} {l : Led} : y ∈ x0 :: x1 :: x2 :: x3 :: x4 :: x5 :: x6 :: x7 :: y :: l := List.mem_cons_of_mem _ mm7
theorem mm9 {x0 x1 x2 x3 x4 x5 x6 x7 x8 y : Addr × Obj} {l : Led} : y ∈ x0 :: x1 :: x2 :: x3 :: x4 :: x5 :: x6 :: x7 :: x8 :: y :: l := List.mem_cons_of_mem _ mm8
theorem mm10 {x0 x1 x2 x3 x4 x5 x6 x7 x8 x9 y : Addr × Obj} {l : Led} : y ∈ x0 :: x1 :: x2 :: x3 :: x4 :: x5 :: x6 :: x7 :: x8 :: x9 :: y :: l := List.mem_cons_of_mem _ mm9
theorem mm11 {x0 x1 x2 x3 x4 x5 x6 x7 x8 x9 x10 y : Addr × Obj} {l : Led} : y ∈ x0 :: x1 :: x2 :: x3 :: x4 :: x5 :: x6 :: x7 :: x8 :: x9 :: x10 :: y :: l := List.mem_cons_of_mem _ mm10
theorem mm12 {x0 x1 x2 x3 x4 x5 x6 x7 x8 x9 x10 x11 y : Addr × Obj} {l : Led} : y ∈ x0 :: x1 :: x2 :: x3 :: x4 :: x5 :: x6 :: x7 :: x8 :: x9 :: x10 :: x11 :: y :: l := List.mem_cons_of_mem _ mm11
theorem mm13 {x0 x1 x2 x3 x4 x5 x6 x7 x8 x9 x10 x11 x12 y : Addr × Obj} {l : Led} : y ∈ x0 :: x1 :: x2 :: x3 :: x4 :: x5 :: x6 :: x7 :: x8 :: x9 :: x10 :: x11 :: x12 :: y :: l := List.mem_cons_of_mem _ mm12
theorem mm14 {x0 x1 x2 x3 x4 x5 x6 x7 x8 x9 x10 x11 x12 x13 y : Addr × Obj} {l : Led} : y ∈ x0 :: x1 :: x2 :: x3 :: x4 :: x5 :: x6 :: x7 :: x8 :: x9 :: x10 :: x11 :: x12 :: x13 :: y :: l := List.mem_cons_of_mem _ mm13
theorem mm15 {x0 x1 x2 x3 x4 x5 x6 x7 x8 x9 x10 x11 x12 x13 x14 y : Addr × Obj} {l : Led} : y ∈ x0 :: x1 :: x2 :: x3 :: x4 :: x5 :: x6 :: x7 :: x8 :: x9 :: x10 :: x11 :: x12 :: x13 :: x14 :: y :: l := List.mem_cons_of_mem _ mm14
theorem right_base {h₀ h : Heap} {L lx ts tr ti tq nt ad el dx dd rl tx td c2 c1 src : Addr} {oq ont oa oel o2 o1 o : Obj} {rest : Led} {s1 s2 s3 s4 s5 s6 q1 q2 q3 q4 q5 u : Tok} {h1 h2 h3 h4 h5 : Int} {n n5 : Nat}
    (N1 : News h₀ L h ((lx, listOf #[.ref ti, .ref tr, .ref ts] 0) :: (ts, { cls := .type "tuple", data := .seq #[.str (Str.ofString "s") s1, .str (Str.ofString "IDREFS") s2] }) :: (tr, { cls := .type "tuple", data := .seq #[.str (Str.ofString "r") s3, .str (Str.ofString "IDREF") s4] }) :: (ti, { cls := .type "tuple", data := .seq #[.str (Str.ofString "i") s5, .str (Str.ofString "ID") s6] }) :: (tq, oq) :: (nt, ont) :: (ad, oa) :: (el, oel) :: (dx, instObj 313 dd) :: (dd, dictOf [⟨h1, .str (Str.ofString "root") q1, .str (Str.ofString "e") u⟩, ⟨h2, .str (Str.ofString "elements") q2, .ref el⟩, ⟨h3, .str (Str.ofString "attributes") q3, .ref ad⟩, ⟨h4, .str (Str.ofString "notations") q4, .ref nt⟩] n) :: (rl, listOf #[] 0) :: (tx, instObj 524 td) :: (td, dictOf [⟨h5, .str (Str.ofString "rows") q5, .ref rl⟩] n5) :: (c2, o2) :: (c1, o1) :: (src, o) :: rest))
    (b1 : @LT.lt Nat _ src c1) (b2 : @LT.lt Nat _ c1 c2) (b3 : @LT.lt Nat _ c2 td) (b4 : @LT.lt Nat _ td tx) (b5 : @LT.lt Nat _ tx rl) (b6 : @LT.lt Nat _ rl dd) (b7 : @LT.lt Nat _ dd dx) (b8 : @LT.lt Nat _ dx ad) (b9 : @LT.lt Nat _ ad ti) (b10 : @LT.lt Nat _ ti tr) (b11 : @LT.lt Nat _ tr ts) (b12 : @LT.lt Nat _ ts lx) :
    ∃ (nb : Led) (its : Array Value) (D : DtdS) (T : TreeS), News h₀ L h ((D.ad, oa) :: (out6 src c1 c2 T.rl T.t T.td o o1 o2 (listOf #[] 0) (instObj 524 T.td) (dictOf [⟨T.h, .str (Str.ofString "rows") T.tk, .ref T.rl⟩] T.n) ++ nb)) ∧
      RB D.ad lx D.o D.dd (out6 src c1 c2 T.rl T.t T.td o o1 o2 (listOf #[] 0) (instObj 524 T.td) (dictOf [⟨T.h, .str (Str.ofString "rows") T.tk, .ref T.rl⟩] T.n)) nb its ∧ its = #[.ref ti, .ref tr, .ref ts] ∧
      (D.dd, dictOf [⟨D.h1, .str (Str.ofString "root") D.t1, .str (Str.ofString "e") D.u⟩, ⟨D.h2, .str (Str.ofString "elements") D.t2, .ref D.e0⟩, ⟨D.h3, .str (Str.ofString "attributes") D.t3, .ref D.ad⟩, ⟨D.h4, .str (Str.ofString "notations") D.t4, .ref D.nt⟩] D.n) ∈ nb ∧ D.o = dx ∧ T.t = tx ∧ D.ad = ad ∧ Six src c1 c2 T.td T.t T.rl := by
  let z0 : RZ := ⟨0, 0, 0, 0, 0, 0, 0, 0, 0, 0, 0, 0, 0, 0⟩
  refine ⟨[(lx, listOf #[.ref ti, .ref tr, .ref ts] 0), (ts, { cls := .type "tuple", data := .seq #[.str (Str.ofString "s") s1, .str (Str.ofString "IDREFS") s2] }), (tr, { cls := .type "tuple", data := .seq #[.str (Str.ofString "r") s3, .str (Str.ofString "IDREF") s4] }), (ti, { cls := .type "tuple", data := .seq #[.str (Str.ofString "i") s5, .str (Str.ofString "ID") s6] }), (dx, instObj 313 dd), (dd, dictOf [⟨h1, .str (Str.ofString "root") q1, .str (Str.ofString "e") u⟩, ⟨h2, .str (Str.ofString "elements") q2, .ref el⟩, ⟨h3, .str (Str.ofString "attributes") q3, .ref ad⟩, ⟨h4, .str (Str.ofString "notations") q4, .ref nt⟩] n)], #[.ref ti, .ref tr, .ref ts],
    ⟨dx, dd, ad, 0, 0, 0, 0, h1, h2, h3, h4, q1, q2, q3, q4, u, n, el, nt, oa, oa, z0, z0, z0⟩, ⟨tx, td, rl, [], h5, q5, n5, 0⟩, ?_, ⟨by simp, ?_, rfl, by simp, ?_, ?_⟩, rfl, by simp, rfl, rfl, rfl, ⟨b1, b2, b3, b4, b5⟩⟩
  · exact cb_drop N1 (List.forall_mem_cons.mpr ⟨mm6, List.forall_mem_cons.mpr ⟨mm15, List.forall_mem_cons.mpr ⟨mm14, List.forall_mem_cons.mpr ⟨mm13, List.forall_mem_cons.mpr ⟨mm10, List.forall_mem_cons.mpr ⟨mm11, List.forall_mem_cons.mpr ⟨mm12, List.forall_mem_cons.mpr ⟨mm0, List.forall_mem_cons.mpr ⟨mm1, List.forall_mem_cons.mpr ⟨mm2, List.forall_mem_cons.mpr ⟨mm3, List.forall_mem_cons.mpr ⟨mm8, List.forall_mem_cons.mpr ⟨mm9, List.forall_mem_nil _⟩⟩⟩⟩⟩⟩⟩⟩⟩⟩⟩⟩⟩)
  · intro i v hv
    rcases i with _ | _ | _ | i
    · exact ⟨ti, _, _, s5, s6, _, (Option.some.inj hv).symm, rfl, rfl, mm3⟩
    · exact ⟨tr, _, _, s3, s4, _, (Option.some.inj hv).symm, rfl, rfl, mm2⟩
    · exact ⟨ts, _, _, s1, s2, _, (Option.some.inj hv).symm, rfl, rfl, mm1⟩
    · exact nomatch hv
  · have g7 := b8
    have g6 := Nat.lt_trans b7 g7
    have g5 := Nat.lt_trans b6 g6
    have g4 := Nat.lt_trans b5 g5
    have g3 := Nat.lt_trans b4 g4
    have g2 := Nat.lt_trans b3 g3
    have g1 := Nat.lt_trans b2 g2
    have g0 := Nat.lt_trans b1 g1
    have e1 := Nat.lt_trans b9 b10
    have e2 := Nat.lt_trans e1 b11
    have e3 := Nat.lt_trans e2 b12
    exact List.forall_mem_cons.mpr ⟨Nat.ne_of_lt g0, List.forall_mem_cons.mpr ⟨Nat.ne_of_lt g1, List.forall_mem_cons.mpr ⟨Nat.ne_of_lt g2, List.forall_mem_cons.mpr ⟨Nat.ne_of_lt g5, List.forall_mem_cons.mpr ⟨Nat.ne_of_lt g4, List.forall_mem_cons.mpr ⟨Nat.ne_of_lt g3, List.forall_mem_cons.mpr ⟨Nat.ne_of_gt e3, List.forall_mem_cons.mpr ⟨Nat.ne_of_gt e2, List.forall_mem_cons.mpr ⟨Nat.ne_of_gt e1, List.forall_mem_cons.mpr ⟨Nat.ne_of_gt b9, List.forall_mem_cons.mpr ⟨Nat.ne_of_lt g7, List.forall_mem_cons.mpr ⟨Nat.ne_of_lt g6, List.forall_mem_nil _⟩⟩⟩⟩⟩⟩⟩⟩⟩⟩⟩⟩
  · have hp2 : ∀ p ∈ [(lx, listOf #[.ref ti, .ref tr, .ref ts] 0), (ts, ({ cls := .type "tuple", data := .seq #[.str (Str.ofString "s") s1, .str (Str.ofString "IDREFS") s2] } : Obj)), (tr, { cls := .type "tuple", data := .seq #[.str (Str.ofString "r") s3, .str (Str.ofString "IDREF") s4] }), (ti, { cls := .type "tuple", data := .seq #[.str (Str.ofString "i") s5, .str (Str.ofString "ID") s6] }), (dx, instObj 313 dd), (dd, dictOf [⟨h1, .str (Str.ofString "root") q1, .str (Str.ofString "e") u⟩, ⟨h2, .str (Str.ofString "elements") q2, .ref el⟩, ⟨h3, .str (Str.ofString "attributes") q3, .ref ad⟩, ⟨h4, .str (Str.ofString "notations") q4, .ref nt⟩] n)], @LE.le Nat _ dd p.1 := by
      have f1 := Nat.lt_trans b7 b8
      have f2 := Nat.lt_trans f1 b9
      have f3 := Nat.lt_trans f2 b10
      have f4 := Nat.lt_trans f3 b11
      have f5 := Nat.lt_trans f4 b12
      exact List.forall_mem_cons.mpr ⟨Nat.le_of_lt f5, List.forall_mem_cons.mpr ⟨Nat.le_of_lt f4, List.forall_mem_cons.mpr ⟨Nat.le_of_lt f3, List.forall_mem_cons.mpr ⟨Nat.le_of_lt f2, List.forall_mem_cons.mpr ⟨Nat.le_of_lt b7, List.forall_mem_cons.mpr ⟨Nat.le_refl _, List.forall_mem_nil _⟩⟩⟩⟩⟩⟩
    have hq2 : ∀ q ∈ out6 src c1 c2 rl tx td o o1 o2 (listOf #[] 0) (instObj 524 td) (dictOf [⟨h5, .str (Str.ofString "rows") q5, .ref rl⟩] n5), @LT.lt Nat _ q.1 dd := by
      have f5 := b6
      have f4 := Nat.lt_trans b5 f5
      have f3 := Nat.lt_trans b4 f4
      have f2 := Nat.lt_trans b3 f3
      have f1 := Nat.lt_trans b2 f2
      have f0 := Nat.lt_trans b1 f1
      exact List.forall_mem_cons.mpr ⟨f0, List.forall_mem_cons.mpr ⟨f1, List.forall_mem_cons.mpr ⟨f2, List.forall_mem_cons.mpr ⟨f5, List.forall_mem_cons.mpr ⟨f4, List.forall_mem_cons.mpr ⟨f3, List.forall_mem_nil _⟩⟩⟩⟩⟩⟩
    exact fun p hp q hq => Nat.ne_of_lt (Nat.lt_of_lt_of_le (hq2 q hq) (hp2 p hp))
theorem cell_names {h₀ h : Heap} {L c2 c1 src x1 x2 x3 x4 x5 x6 x7 x8 x9 x10 x11 x12 x13 : Addr} {y1 y2 y3 y4 y5 y6 y7 y8 y9 y10 y11 y12 y13 o2 o1 o : Obj} {rest : Led}
    (_N : News h₀ L h ((x1, y1) :: (x2, y2) :: (x3, y3) :: (x4, y4) :: (x5, y5) :: (x6, y6) :: (x7, y7) :: (x8, y8) :: (x9, y9) :: (x10, y10) :: (x11, y11) :: (x12, y12) :: (x13, y13) :: (c2, o2) :: (c1, o1) :: (src, o) :: rest)) : ∃ w1 w2 wa, w1 = o1 ∧ w2 = o2 ∧ wa = y7 := ⟨o1, o2, y7, rfl, rfl, rfl⟩
/-- the dtd while it is filled: `i` attributes are declared -/
inductive DS (w : World) (ad : Addr) (bs : Led) : Nat → Led → Prop
  | zero (oa : Obj) (h1 : oa.IsDictOf (PySem.strKind PySem.Challenge.rw_sm0078_01.row.prog w) []) : DS w ad bs 0 ((ad, oa) :: bs)
  | succ (i : Nat) (oa ob : Obj) (rd : Addr) (nw : Led) (rs : List (Str × Addr)) (h1 : oa.IsDictOf (PySem.strKind PySem.Challenge.rw_sm0078_01.row.prog w) [(Str.ofString "e", .ref rd)])
      (h2 : ob.IsDictOf (PySem.strKind PySem.Challenge.rw_sm0078_01.row.prog w) (rs.map fun p => (p.1, Value.ref p.2))) (h3 : (rd == sysModules) = false) (h4 : rs.map (·.1) = ns3.take (i + 1)) (h5 : ∀ (k : Nat) (p : Str × Addr), rs[k]? = some p → ∃ z kd, ks3[k]? = some kd ∧ RuleIn nw p.2 kd z)
      (h6 : Fr2 ((rd, ob) :: nw) bs) (h7 : ∀ p ∈ nw, p.1 ≠ ad ∧ p.1 ≠ rd) (h8 : @Ne Nat rd ad) : DS w ad bs (i + 1) ((ad, oa) :: (rd, ob) :: (nw ++ bs))
theorem take_ns {i : Nat} {nm : Str} {l : List Str} (h : l = ns3.take i) (hn : ns3[i]? = some nm) : l ++ [nm] = ns3.take (i + 1) := by rw [h, take_one hn]
/-- the first attribute is declared -/
theorem ds_first {w : World} {h₀ h : Heap} {L ad rd x dx c0 I : Addr} {oa ob oI : Obj} {bs : Led} {nm kd : Str} {h1 h2 h3 h4 : Int} {t1 t2 t3 t4 u u3 : Tok} {n n2 : Nat}
    (NE : News h₀ L h ((rd, ob) :: (x, instObj 112 dx) :: (dx, dictOf [⟨h1, .str (Str.ofString "kind") t1, .str kd u⟩, ⟨h2, .str (Str.ofString "choices") t2, .ref c0⟩, ⟨h3, .str (Str.ofString "mode") t3, .str (Str.ofString "implied") u3⟩, ⟨h4, .str (Str.ofString "value") t4, .none⟩] n) :: (c0, ({ cls := .type "tuple", data := .seq #[] n2 } : Obj)) :: (I, oI) :: (ad, oa) :: bs))
    (b0 : ∀ p ∈ bs, @LT.lt Nat _ p.1 c0) (bI : @LT.lt Nat _ I c0) (b1 : @LT.lt Nat _ ad c0) (b2 : @LT.lt Nat _ c0 dx) (b3 : @LT.lt Nat _ dx x) (b4 : @LT.lt Nat _ x rd) (ha : oa.IsDictOf (PySem.strKind PySem.Challenge.rw_sm0078_01.row.prog w) (stored [] (Str.ofString "e") (.ref rd)))
    (hb : ob.IsDictOf (PySem.strKind PySem.Challenge.rw_sm0078_01.row.prog w) (stored [] nm (.ref x))) (hlo : (rd == sysModules) = false) (hn : ns3[0]? = some nm) (hk : ks3[0]? = some kd) :
    ∃ nw, News h₀ L h ((I, oI) :: (ad, oa) :: (rd, ob) :: (nw ++ bs)) ∧ DS w ad bs 1 ((ad, oa) :: (rd, ob) :: (nw ++ bs)) ∧ ∀ p ∈ (rd, ob) :: nw, p.1 ≠ I := by
  refine ⟨[(x, instObj 112 dx), (dx, dictOf [⟨h1, .str (Str.ofString "kind") t1, .str kd u⟩, ⟨h2, .str (Str.ofString "choices") t2, .ref c0⟩, ⟨h3, .str (Str.ofString "mode") t3, .str (Str.ofString "implied") u3⟩, ⟨h4, .str (Str.ofString "value") t4, .none⟩] n), (c0, ({ cls := .type "tuple", data := .seq #[] n2 } : Obj))], ?_, ?_, ?_⟩
  · refine cb_drop NE fun p hp => ?_
    simp only [List.cons_append, List.nil_append, List.mem_cons, List.not_mem_nil, or_false] at hp ⊢
    rcases hp with h | h | h | h | h | h | h <;> simp [h]
  · refine DS.succ 0 oa ob rd _ [(nm, x)] ha hb hlo ?_ ?_ ?_ ?_ (by refine neN ?_; omega)
    · exact take_ns (i := 0) rfl hn
    · intro k p hp
      rcases k with _ | k
      · simp at hp; subst hp
        exact ⟨⟨dx, c0, h1, h2, h3, h4, t1, t2, t3, t4, u, u3, n, n2⟩, kd, hk, by simp, by simp, by simp⟩
      · simp at hp
    · intro p hp q hq
      have hq1 := b0 q hq
      simp only [List.mem_cons, List.not_mem_nil, or_false] at hp
      rcases hp with rfl | rfl | rfl | rfl <;> (refine neN ?_; dsimp only; omega)
    · intro p hp
      simp only [List.mem_cons, List.not_mem_nil, or_false] at hp
      rcases hp with rfl | rfl | rfl <;> exact ⟨by refine neN ?_; dsimp only; omega, by refine neN ?_; dsimp only; omega⟩
  · intro p hp
    simp only [List.mem_cons, List.not_mem_nil, or_false] at hp
    rcases hp with rfl | rfl | rfl | rfl <;> (refine neN ?_; dsimp only; omega)
theorem ns_new {i : Nat} {nm : Str} {rs : List (Str × Addr)} (h : rs.map (·.1) = ns3.take (i + 1)) (hn : ns3[i + 1]? = some nm) : valueAt (rs.map fun p => (p.1, Value.ref p.2)) nm = none := by
  have hm : nm ∉ rs.map (·.1) := by
    rw [h]; unfold ns3 at hn ⊢
    rcases i with _ | _ | i
    · simp at hn; subst hn; decide +kernel
    · simp at hn; subst hn; decide +kernel
    · simp at hn
  unfold valueAt
  rw [List.find?_eq_none.mpr]
  · rfl
  · intro p hp
    obtain ⟨q, hq, rfl⟩ := List.mem_map.mp hp
    simp only [decide_eq_true_eq]
    rintro e
    exact hm (e ▸ List.mem_map_of_mem hq)
/-- a later attribute is declared -/
theorem ds_next {w : World} {h₀ h : Heap} {L ad rd x dx c0 I : Addr} {oa ob oc oI : Obj} {bs nw : Led} {nm kd : Str} {h1 h2 h3 h4 : Int} {t1 t2 t3 t4 u u3 : Tok} {n n2 i : Nat} {rs : List (Str × Addr)}
    (NE : News h₀ L h ((x, instObj 112 dx) :: (dx, dictOf [⟨h1, .str (Str.ofString "kind") t1, .str kd u⟩, ⟨h2, .str (Str.ofString "choices") t2, .ref c0⟩, ⟨h3, .str (Str.ofString "mode") t3, .str (Str.ofString "implied") u3⟩, ⟨h4, .str (Str.ofString "value") t4, .none⟩] n) :: (c0, ({ cls := .type "tuple", data := .seq #[] n2 } : Obj)) :: (I, oI) :: (ad, oa) :: (rd, oc) :: (nw ++ bs)))
    (b0 : ∀ p ∈ nw ++ bs, @LT.lt Nat _ p.1 c0) (bI : @LT.lt Nat _ I c0) (b1 : @LT.lt Nat _ ad c0) (b5 : @LT.lt Nat _ rd c0) (b2 : @LT.lt Nat _ c0 dx) (b3 : @LT.lt Nat _ dx x)
    (g1 : oa.IsDictOf (PySem.strKind PySem.Challenge.rw_sm0078_01.row.prog w) [(Str.ofString "e", .ref rd)]) (g2 : oc.IsDictOf (PySem.strKind PySem.Challenge.rw_sm0078_01.row.prog w) (stored (rs.map fun p => (p.1, Value.ref p.2)) nm (.ref x))) (g3 : (rd == sysModules) = false)
    (g4 : rs.map (·.1) = ns3.take (i + 1)) (g5 : ∀ (k : Nat) (p : Str × Addr), rs[k]? = some p → ∃ z kd, ks3[k]? = some kd ∧ RuleIn nw p.2 kd z) (g6 : Fr2 ((rd, ob) :: nw) bs) (g7 : ∀ p ∈ nw, p.1 ≠ ad ∧ p.1 ≠ rd) (g8 : @Ne Nat rd ad)
    (hno : valueAt (rs.map fun p => (p.1, Value.ref p.2)) nm = none) (hn : ns3[i + 1]? = some nm) (hk : ks3[i + 1]? = some kd) (hI : ∀ p ∈ nw ++ bs, p.1 ≠ I) (hIr : @Ne Nat I rd) (hIa : @Ne Nat I ad) :
    ∃ nw', News h₀ L h ((I, oI) :: (ad, oa) :: (rd, oc) :: (nw' ++ bs)) ∧ DS w ad bs (i + 2) ((ad, oa) :: (rd, oc) :: (nw' ++ bs)) ∧ ∀ p ∈ (ad, oa) :: (rd, oc) :: (nw' ++ bs), p.1 ≠ I := by
  have hlen : rs.length = i + 1 := by
    have e := congrArg List.length g4
    have hi : i + 1 < ns3.length := (List.getElem?_eq_some_iff.mp hn).1
    rw [List.length_map, List.length_take] at e; omega
  refine ⟨(x, instObj 112 dx) :: (dx, dictOf [⟨h1, .str (Str.ofString "kind") t1, .str kd u⟩, ⟨h2, .str (Str.ofString "choices") t2, .ref c0⟩, ⟨h3, .str (Str.ofString "mode") t3, .str (Str.ofString "implied") u3⟩, ⟨h4, .str (Str.ofString "value") t4, .none⟩] n) :: (c0, ({ cls := .type "tuple", data := .seq #[] n2 } : Obj)) :: nw, ?_, ?_, ?_⟩
  · refine cb_drop NE fun p hp => ?_
    simp only [List.cons_append, List.mem_cons] at hp ⊢
    rcases hp with h | h | h | h | h | h | h <;> simp only [h, true_or, or_true]
  · refine DS.succ (i + 1) oa oc rd _ (rs ++ [(nm, x)]) g1 (by rw [stored_absent hno] at g2; rw [List.map_append]; exact g2) g3 (by rw [List.map_append, g4]; exact take_ns rfl hn) ?_ ?_ ?_ g8
    · intro k p hp
      by_cases hkl : k < rs.length
      · rw [List.getElem?_append_left hkl] at hp
        obtain ⟨z, kd', e1, e2⟩ := g5 k p hp
        exact ⟨z, kd', e1, e2.mono fun q hq => .tail _ (.tail _ (.tail _ hq))⟩
      · rw [List.getElem?_append_right (Nat.le_of_not_lt hkl)] at hp
        obtain ⟨j, hj⟩ : ∃ j, j = k - rs.length := ⟨_, rfl⟩
        rw [← hj] at hp
        rcases j with _ | j
        · simp at hp; subst hp
          exact ⟨⟨dx, c0, h1, h2, h3, h4, t1, t2, t3, t4, u, u3, n, n2⟩, kd, by rw [show k = i + 1 by omega]; exact hk, .head _, .tail _ (.head _), .tail _ (.tail _ (.head _))⟩
        · simp at hp
    · intro p hp q hq
      have hq1 := b0 q (List.mem_append_right _ hq)
      rcases List.mem_cons.mp hp with rfl | hp
      · exact g6 _ (.head _) q hq
      rcases List.mem_cons.mp hp with rfl | hp
      · refine neN ?_; dsimp only; omega
      rcases List.mem_cons.mp hp with rfl | hp
      · refine neN ?_; dsimp only; omega
      rcases List.mem_cons.mp hp with rfl | hp
      · refine neN ?_; dsimp only; omega
      exact g6 _ (.tail _ hp) q hq
    · intro p hp
      rcases List.mem_cons.mp hp with rfl | hp
      · exact ⟨by refine neN ?_; dsimp only; omega, by refine neN ?_; dsimp only; omega⟩
      rcases List.mem_cons.mp hp with rfl | hp
      · exact ⟨by refine neN ?_; dsimp only; omega, by refine neN ?_; dsimp only; omega⟩
      rcases List.mem_cons.mp hp with rfl | hp
      · exact ⟨by refine neN ?_; dsimp only; omega, by refine neN ?_; dsimp only; omega⟩
      exact g7 p hp
  · intro p hp
    rcases List.mem_cons.mp hp with rfl | hp
    · exact Ne.symm hIa
    rcases List.mem_cons.mp hp with rfl | hp
    · exact Ne.symm hIr
    rcases List.mem_cons.mp hp with rfl | hp
    · refine neN ?_; dsimp only; omega
    rcases List.mem_cons.mp hp with rfl | hp
    · refine neN ?_; dsimp only; omega
    rcases List.mem_cons.mp hp with rfl | hp
    · refine neN ?_; dsimp only; omega
    exact hI p hp
theorem ds_done {w : World} {D : DtdS} {bs nb R : Led} (h : DS w D.ad bs 3 R) (hb : ∀ p ∈ bs, p.1 ≠ D.ad) (hlo : (D.ad == sysModules) = false) (g1 : (D.o, instObj 313 D.dd) ∈ nb) (g2 : (D.dd, dictOf [⟨D.h1, .str (Str.ofString "root") D.t1, .str (Str.ofString "e") D.u⟩, ⟨D.h2, .str (Str.ofString "elements") D.t2, .ref D.e0⟩, ⟨D.h3, .str (Str.ofString "attributes") D.t3, .ref D.ad⟩, ⟨D.h4, .str (Str.ofString "notations") D.t4, .ref D.nt⟩] D.n) ∈ nb) :
    ∃ (D' : DtdS) (nw : Led), D'.o = D.o ∧ R = nw ++ bs ∧ DtdIn w (nw ++ nb) D' ∧ Fr2 nw bs := by
  cases h with
  | succ i oa ob rd nw rs h1 h2 h3 h4 h5 h6 h7 h8 =>
    rcases rs with _ | ⟨⟨n0, a0⟩, _ | ⟨⟨n1, a1⟩, _ | ⟨⟨n2, a2⟩, _ | ⟨p, rs⟩⟩⟩⟩ <;> simp [ns3] at h4
    obtain ⟨rfl, rfl, rfl⟩ := h4
    obtain ⟨z0, k0, e0, r0⟩ := h5 0 _ rfl
    obtain ⟨z1, k1, e1, r1⟩ := h5 1 _ rfl
    obtain ⟨z2, k2, e2, r2⟩ := h5 2 _ rfl
    simp [ks3] at e0 e1 e2
    subst e0 e1 e2
    have up : ∀ p ∈ nw, p ∈ (D.ad, oa) :: (rd, ob) :: (nw ++ nb) := fun p hp => .tail _ (.tail _ (List.mem_append_left _ hp))
    have ub : ∀ p ∈ nb, p ∈ (D.ad, oa) :: (rd, ob) :: (nw ++ nb) := fun p hp => .tail _ (.tail _ (List.mem_append_right _ hp))
    exact ⟨{ D with rd := rd, ri := a0, rr := a1, rs := a2, oa := oa, ob := ob, zi := z0, zr := z1, zs := z2 }, (D.ad, oa) :: (rd, ob) :: nw, rfl, rfl, ⟨ub _ g1, ub _ g2, .head _, h1, hlo, .tail _ (.head _), h2, h3, r0.mono up, r1.mono up, r2.mono up⟩, List.forall_mem_cons.mpr ⟨hb, h6⟩⟩
-- behind the loop: the entries put in order
theorem right_mid {h₀ h : Heap} {L src c1 c2 td tx rl : Addr} {o o1 o2 orl otx otd : Obj} {nb nw : Led} (N : News h₀ L h (nw ++ (out6 src c1 c2 rl tx td o o1 o2 orl otx otd ++ nb))) (hs : Six src c1 c2 td tx rl) (h6 : ∀ p ∈ nb, ∀ q ∈ out6 src c1 c2 rl tx td o o1 o2 orl otx otd, q.1 ≠ p.1) (hfr : Fr2 nw (out6 src c1 c2 rl tx td o o1 o2 orl otx otd ++ nb)) :
    News h₀ L h ((rl, orl) :: (src, o) :: (c1, o1) :: (c2, o2) :: (tx, otx) :: (td, otd) :: (nw ++ nb)) ∧ (∀ p ∈ (src, o) :: (c1, o1) :: (c2, o2) :: (tx, otx) :: (td, otd) :: (nw ++ nb), p.1 ≠ rl) ∧ ∀ p ∈ nw ++ nb, ∀ q ∈ out6 src c1 c2 rl tx td o o1 o2 orl otx otd, q.1 ≠ p.1 := by
  obtain ⟨b1, b2, b3, b4, b5⟩ := hs
  have hB : ∀ p ∈ nw ++ nb, ∀ q ∈ out6 src c1 c2 rl tx td o o1 o2 orl otx otd, q.1 ≠ p.1 := fun p hp q hq => by
    rcases List.mem_append.mp hp with hp | hp
    · exact hfr p hp q (List.mem_append_left _ hq)
    · exact h6 p hp q hq
  refine ⟨cb_drop N fun p hp => ?_, ?_, hB⟩
  · simp only [out6, List.cons_append, List.nil_append, List.mem_cons, List.mem_append, List.not_mem_nil, or_false] at hp ⊢
    rcases hp with h | h | h | h | h | h | h | h <;> simp [h]
  · refine List.forall_mem_cons.mpr ⟨by refine neN ?_; dsimp only; omega, List.forall_mem_cons.mpr ⟨by refine neN ?_; dsimp only; omega, List.forall_mem_cons.mpr ⟨by refine neN ?_; dsimp only; omega, List.forall_mem_cons.mpr ⟨by refine neN ?_; dsimp only; omega, List.forall_mem_cons.mpr ⟨by refine neN ?_; dsimp only; omega, fun p hp e => hB p hp (rl, orl) (by simp [out6]) e.symm⟩⟩⟩⟩⟩
theorem right_mid2 {h₀ h : Heap} {L src c1 c2 : Addr} {o o1 o2 orl0 : Obj} {B nw : Led} {T : TreeS} {nd : Nd} {n1 : Nat} (hs : Six src c1 c2 T.td T.t T.rl)
    (N : News h₀ L h ((T.rl, listOf #[Value.ref nd.r] n1) :: (((src, o) :: (c1, o1) :: (c2, o2) :: (T.t, instObj 524 T.td) :: (T.td, dictOf [⟨T.h, .str (Str.ofString "rows") T.tk, .ref T.rl⟩] T.n) :: B) ++ nw))) (hv : NodeIn nw nd ∧ vw nd = rootPN ∧ Fr2 nw ((T.rl, orl0) :: (src, o) :: (c1, o1) :: (c2, o2) :: (T.t, instObj 524 T.td) :: (T.td, dictOf [⟨T.h, .str (Str.ofString "rows") T.tk, .ref T.rl⟩] T.n) :: B) ∧ @Ne Nat nd.ck nd.ak)
    (hB : ∀ p ∈ B, ∀ q ∈ out6 src c1 c2 T.rl T.t T.td o o1 o2 orl0 (instObj 524 T.td) (dictOf [⟨T.h, .str (Str.ofString "rows") T.tk, .ref T.rl⟩] T.n), q.1 ≠ p.1) :
    ∃ tl T1, News h₀ L h ((src, o) :: (((c1, o1) :: (c2, o2) :: B) ++ tl)) ∧ T1.t = T.t ∧ TreeIn tl T1 ∧ TSep T1 ∧ views T1 = [rootPN] ∧ Apart ((c1, o1) :: (c2, o2) :: B) tl ∧ (∀ p ∈ (c1, o1) :: (c2, o2) :: B, p.1 ≠ src) ∧ ∀ p ∈ tl, p.1 ≠ src := by
  obtain ⟨b1, b2, b3, b4, b5⟩ := hs
  obtain ⟨hn, hvw, hfr, hne⟩ := hv
  have hm : ∀ x ∈ [src, c1, c2, T.rl, T.t, T.td], ∀ p ∈ B, p.1 ≠ x := fun x hx p hp e => by
    have := hB p hp
    simp only [List.mem_cons, List.not_mem_nil, or_false] at hx
    rcases hx with rfl | rfl | rfl | rfl | rfl | rfl
    · exact this _ (.head _) e.symm
    · exact this _ (.tail _ (.head _)) e.symm
    · exact this _ (.tail _ (.tail _ (.head _))) e.symm
    · exact this _ (.tail _ (.tail _ (.tail _ (.head _)))) e.symm
    · exact this _ (.tail _ (.tail _ (.tail _ (.tail _ (.head _))))) e.symm
    · exact this _ (.tail _ (.tail _ (.tail _ (.tail _ (.tail _ (.head _)))))) e.symm
  refine ⟨(T.rl, listOf #[Value.ref nd.r] n1) :: (T.t, instObj 524 T.td) :: (T.td, dictOf [⟨T.h, .str (Str.ofString "rows") T.tk, .ref T.rl⟩] T.n) :: nw, { T with nodes := [nd], rn := n1 }, cb_drop N fun p hp => ?_, rfl, ⟨.tail _ (.head _), .tail _ (.tail _ (.head _)), .head _, fun x hx => ?_⟩, ⟨fun x hx => ?_, fun i j x y hi hj hij => ?_⟩, ?_, ?_, ?_, ?_⟩
  · simp only [List.cons_append, List.mem_cons, List.mem_append] at hp ⊢
    rcases hp with h | h | h | h | h | h | h | h <;> simp [h]
  · rw [List.mem_singleton.mp hx]
    exact hn.mono fun p hp => .tail _ (.tail _ (.tail _ hp))
  · rw [List.mem_singleton.mp hx]
    exact ⟨hfr _ hn.k _ (.head _), hfr _ hn.a _ (.head _), hne⟩
  · rcases i with _ | i
    · rcases j with _ | j
      · exact absurd rfl hij
      · simp at hj
    · simp at hi
  · show [vw nd] = _; rw [hvw]
  · intro p hp q hq
    have hq' : q.1 = T.rl ∨ q.1 = T.t ∨ q.1 = T.td ∨ q ∈ nw := by
      simp only [List.mem_cons] at hq
      rcases hq with rfl | rfl | rfl | h
      · exact .inl rfl
      · exact .inr (.inl rfl)
      · exact .inr (.inr (.inl rfl))
      · exact .inr (.inr (.inr h))
    rcases hq' with h | h | h | h
    · rw [h]; simp only [List.mem_cons] at hp
      rcases hp with rfl | rfl | hp
      · refine neN ?_; dsimp only; omega
      · refine neN ?_; dsimp only; omega
      · exact Ne.symm (hm _ (by simp) p hp)
    · rw [h]; simp only [List.mem_cons] at hp
      rcases hp with rfl | rfl | hp
      · refine neN ?_; dsimp only; omega
      · refine neN ?_; dsimp only; omega
      · exact Ne.symm (hm _ (by simp) p hp)
    · rw [h]; simp only [List.mem_cons] at hp
      rcases hp with rfl | rfl | hp
      · refine neN ?_; dsimp only; omega
      · refine neN ?_; dsimp only; omega
      · exact Ne.symm (hm _ (by simp) p hp)
    · exact fun e => hfr q h p (by simp only [List.mem_cons] at hp ⊢; rcases hp with h | h | h <;> simp [h]) e.symm
  · refine List.forall_mem_cons.mpr ⟨by refine neN ?_; dsimp only; omega, List.forall_mem_cons.mpr ⟨by refine neN ?_; dsimp only; omega, fun p hp => hm _ (by simp) p hp⟩⟩
  · refine List.forall_mem_cons.mpr ⟨by refine neN ?_; dsimp only; omega, List.forall_mem_cons.mpr ⟨by refine neN ?_; dsimp only; omega, List.forall_mem_cons.mpr ⟨by refine neN ?_; dsimp only; omega, fun p hp e => hfr p hp (src, o) (by simp) e.symm⟩⟩⟩

-- the cells apart; what else lies there stays
def NC (o : Obj) : Prop := ∀ v, o.data ≠ .cell v
def KeepsNC (a b : Led) : Prop := ∀ p ∈ a, NC p.2 → p ∈ b
theorem nc_inst {C d : Addr} : NC (instObj C d) := fun _ e => nomatch e
theorem nc_dict {es : List DictEntry} {n : Nat} : NC (dictOf es n) := fun _ e => nomatch e
theorem nc_list {its : Array Value} {n : Nat} : NC (listOf its n) := fun _ e => nomatch e
theorem nc_tup {vs : Array Value} {n : Nat} : NC ({ cls := .type "tuple", data := .seq vs n } : Obj) := fun _ e => nomatch e
theorem nc_isDict {w : World} {o : Obj} {kvs : List (Str × Value)} (h : o.IsDictOf (PySem.strKind PySem.Challenge.rw_sm0078_01.row.prog w) kvs) : NC o := fun v e => by
  obtain ⟨es, ep, _, h2, _⟩ := h
  rw [e] at h2; cases h2
theorem NodeIn.keep {a b : Led} {nd : Nd} (hs : KeepsNC a b) (h : NodeIn a nd) : NodeIn b nd := ⟨hs _ h.i nc_inst, hs _ h.d nc_dict, hs _ h.k nc_list, hs _ h.a nc_list⟩
theorem TreeIn.keep {a b : Led} {T : TreeS} (hs : KeepsNC a b) (h : TreeIn a T) : TreeIn b T := ⟨hs _ h.i nc_inst, hs _ h.d nc_dict, hs _ h.r nc_list, fun nd hm => (h.nodes nd hm).keep hs⟩
theorem RuleIn.keep {a b : Led} {ra : Addr} {kd : Str} {z : RZ} (hs : KeepsNC a b) (h : RuleIn a ra kd z) : RuleIn b ra kd z := ⟨hs _ h.i nc_inst, hs _ h.d nc_dict, hs _ h.c nc_tup⟩
theorem DtdIn.keep {w : World} {a b : Led} {D : DtdS} (hs : KeepsNC a b) (h : DtdIn w a D) : DtdIn w b D := ⟨hs _ h.i nc_inst, hs _ h.d nc_dict, hs _ h.a1 (nc_isDict h.a2), h.a2, h.a3, hs _ h.b1 (nc_isDict h.b2), h.b2, h.b3, h.ri.keep hs, h.rr.keep hs, h.rs.keep hs⟩
mutual
theorem datIn_keep {a b : Led} (hs : KeepsNC a b) : ∀ {v : Value} {d : Dat}, DatIn a v d → DatIn b v d
  | _, _, .none => .none
  | _, _, .bool b => .bool b
  | _, _, .int i t => .int i t
  | _, _, .str x t => .str x t
  | _, _, .bytes b t => .bytes b t
  | _, _, .tuple h r => .tuple (hs _ h nc_tup) (datAll_keep hs r)
  | _, _, .list h r => .list (hs _ h nc_list) (datAll_keep hs r)
theorem datAll_keep {a b : Led} (hs : KeepsNC a b) : ∀ {vs : List Value} {ds : List Dat}, DatAll a vs ds → DatAll b vs ds
  | _, _, .nil => .nil
  | _, _, .cons h r => .cons (datIn_keep hs h) (datAll_keep hs r)
end
theorem keeps_cut {h₀ h : Heap} {L c1 c2 : Addr} {o1 o2 : Obj} {l : Led} {v1 v2 : Option Value} (N : News h₀ L h l) (m1 : (c1, o1) ∈ l) (m2 : (c2, o2) ∈ l) (d1 : o1.data = .cell v1) (d2 : o2.data = .cell v2) : KeepsNC l (cut2 c1 c2 l) := fun p hp hn =>
  cut2_mem.mpr ⟨hp, (by rintro rfl; rw [News.uniq N hp m1] at hn; exact hn _ d1), (by rintro rfl; rw [News.uniq N hp m2] at hn; exact hn _ d2)⟩
theorem right_split {w : World} {h₀ h : Heap} {L ra c1 c2 : Addr} {o1 o2 : Obj} {l : Led} {vs : List Value} {kr : Nat} {T : TreeS} {D : DtdS} {ds : List Dat} {v1 v2 : Option Value} (N : News h₀ L h ((ra, listOf vs.toArray kr) :: l)) (m1 : (c1, o1) ∈ l) (m2 : (c2, o2) ∈ l) (d1 : o1.data = .cell v1) (d2 : o2.data = .cell v2)
    (hT : TreeIn l T) (hD : DtdIn w l D) (hr : DatAll l vs ds) : ∃ R, News h₀ L h ((c1, o1) :: (c2, o2) :: R) ∧ (∀ p ∈ R, p.1 ≠ c1) ∧ (∀ p ∈ R, p.1 ≠ c2) ∧ (ra, listOf vs.toArray kr) ∈ R ∧ TreeIn R T ∧ DtdIn w R D ∧ DatAll R vs ds := by
  have m1' := List.mem_cons_of_mem (ra, listOf vs.toArray kr) m1
  have m2' := List.mem_cons_of_mem (ra, listOf vs.toArray kr) m2
  have hk := keeps_cut N m1' m2' d1 d2
  have hk' : KeepsNC l (cut2 c1 c2 ((ra, listOf vs.toArray kr) :: l)) := fun p hp => hk p (.tail _ hp)
  exact ⟨cut2 c1 c2 ((ra, listOf vs.toArray kr) :: l), cb_drop N (cut2_back m1' m2'), fun p hp => (cut2_mem.mp hp).2.1, fun p hp => (cut2_mem.mp hp).2.2, hk _ (.head _) nc_list, hT.keep hk', hD.keep hk', datAll_keep hk' hr⟩
-- pairs compared
def EPair (led : Led) (v : Value) (x : Nat × Str) : Prop := ∃ tp t u n, v = .ref tp ∧ (tp, ({ cls := .type "tuple", data := .seq #[.int ((x.1 : Nat) : Int) t, .str x.2 u] n } : Obj)) ∈ led
theorem pd_encs {led : Led} {vs : List Value} {l : List (Nat × Str)} (h : DatAll led vs (pd l)) : Encs (EPair led) vs l := by
  refine ⟨by have := h.length; simpa [pd] using this, fun i v x h1 h2 => ?_⟩
  obtain ⟨q, tp, t, u, n, e1, e2, e3⟩ := pd_at h h1
  rw [h2] at e1; cases e1
  exact ⟨tp, t, u, n, e2, e3⟩
section
variable {prog : Program} {w : World} {A : Around} {E : Value → Shared → Prop} {s : Shared} {h₀ : Heap} {L : Addr} {news : Led}
theorem eqAt_pair (N : News h₀ L s.heap news) (hu : A.units < cLine) (v u : Value) (x y : Nat × Str) (h1 : EPair news v x) (h2 : EPair news u y) : SeqAt.EqAt A s v u (decide (x = y)) := by
  obtain ⟨t1, a1, b1, n1, rfl, m1⟩ := h1
  obtain ⟨t2, a2, b2, n2, rfl, m2⟩ := h2
  by_cases e : t1 = t2
  · subst e
    have hd := congrArg Obj.data (News.uniq N m1 m2)
    simp only [Data.seq.injEq, Array.mk.injEq, List.cons.injEq, Value.int.injEq, Value.str.injEq, Int.natCast_inj] at hd
    have hxy : x = y := Prod.ext hd.1.1.1 hd.1.2.1.1
    rw [hxy, decide_eq_true rfl]
    exact SeqAt.EqAt.same _
  · have := SeqAt.RcAt.tuples (A := A) (e := fun j => match j with | 0 => decide (x.1 = y.1) | _ => decide (x.2 = y.2)) (News.isTup N m1) (News.isTup N m2) hu (fun j h1 h2 => by
      rcases j with _ | _ | j
      · have := SeqAt.EqAt.int_int (A := A.in1) (s := s) ((x.1 : Nat) : Int) a1 ((y.1 : Nat) : Int) a2
        rwa [show (((x.1 : Nat) : Int) == ((y.1 : Nat) : Int)) = decide (x.1 = y.1) from by rw [Bool.eq_iff_iff]; simp; omega] at this
      · exact eqAt_str _ _ _ _ ⟨_, rfl⟩ ⟨_, rfl⟩
      · simp at h1; omega)
    have q : ((List.range (min (#[Value.int ((x.1 : Nat) : Int) a1, Value.str x.2 b1]).size (#[Value.int ((y.1 : Nat) : Int) a2, Value.str y.2 b2]).size)).all (fun j => match j with | 0 => decide (x.1 = y.1) | _ => decide (x.2 = y.2)) && (#[Value.int ((x.1 : Nat) : Int) a1, Value.str x.2 b1]).size == (#[Value.int ((y.1 : Nat) : Int) a2, Value.str y.2 b2]).size) = decide (x = y) := by
      rw [Bool.eq_iff_iff, decide_eq_true_eq, Prod.ext_iff]
      simp [List.range_succ]
    rw [q] at this
    exact SeqAt.EqAt.of_refs e this
/-- two lists of the same pairs -/
theorem ne_pairs {a b : Addr} {vs us : List Value} {n n' : Nat} {l : List (Nat × Str)} {Q : Value → Shared → Prop} (N : News h₀ L s.heap news) (ma : (a, listOf vs.toArray n) ∈ news) (mb : (b, listOf us.toArray n') ∈ news) (hi : DatAll news vs (pd l)) (hj : DatAll news us (pd l)) (hu : A.units < cLine) (hu2 : A.in1.units < cLine)
    (h : Q (.bool false) s) : wpAny (model prog w) A (compareOp .NotEq (.ref a) (.ref b)) Q E s :=
  ne_encs (News.isList N ma) (News.isList N mb) (pd_encs hi) (pd_encs hj) (eqAt_pair N hu2) hu (by simpa using h)
theorem ne_ints0 {a b : Addr} {l l' : List (Nat × Tok)} {n n' : Nat} {xs : List Nat} {Q : Value → Shared → Prop} (N : News h₀ L s.heap news) (ma : (a, listOf (intVals l).toArray n) ∈ news) (mb : (b, listOf (intVals l').toArray n') ∈ news) (hi : l.map (·.1) = xs) (hj : l'.map (·.1) = xs) (hu : A.units < cLine)
    (h : Q (.bool false) s) : wpAny (model prog w) A (compareOp .NotEq (.ref a) (.ref b)) Q E s :=
  ne_ints N ma mb (.of l) (.of l') hu (by simpa [hi, hj] using h)
/-- two tables of the same entries -/
theorem tab_val {l2 : List (Str × Nat × Tok)} (hn : (l2.map (·.1)).Nodup) {p : Str × Nat × Tok} (hp : p ∈ l2) : valueAt (tabV l2) p.1 = some (.int ((p.2.1 : Nat) : Int) p.2.2) := by
  induction l2 with
  | nil => cases hp
  | cons q r ih =>
    rw [List.map_cons, List.nodup_cons] at hn
    unfold valueAt tabV
    rw [List.map_cons, List.find?_cons]
    rcases List.mem_cons.mp hp with rfl | hp
    · simp
    · have hne : q.1 ≠ p.1 := fun e => hn.1 (e ▸ List.mem_map_of_mem hp)
      rw [decide_eq_false hne]
      exact ih hn.2 hp
theorem tab_hits {l2 : List (Str × Nat × Tok)} (hn : (l2.map (·.1)).Nodup) : ∀ {l1 : List (Str × Nat × Tok)}, (∀ p ∈ l1, ∃ q ∈ l2, q.1 = p.1 ∧ q.2.1 = p.2.1) → KeqHits A s (tabV l2) (tabV l1) true := by
  intro l1
  induction l1 with
  | nil => intro _; exact .nil
  | cons p r ih =>
    intro h
    obtain ⟨q, hq, e1, e2⟩ := h p List.mem_cons_self
    have hv := tab_val hn hq
    rw [e1, e2] at hv
    have he := SeqAt.EqAt.int_int (A := A) (s := s) ((p.2.1 : Nat) : Int) p.2.2 ((p.2.1 : Nat) : Int) q.2.2
    rw [beq_self_eq_true] at he
    exact .hit hv he (ih fun x hx => h x (List.mem_cons_of_mem _ hx))
theorem ne_tabs {a b : Addr} {oa ob : Obj} {l1 l2 : List (Str × Nat × Tok)} {Q : Value → Shared → Prop} (N : News h₀ L s.heap news) (ma : (a, oa) ∈ news) (mb : (b, ob) ∈ news) (ha : (a == sysModules) = false) (hb : (b == sysModules) = false)
    (da : oa.IsDictOf (PySem.strKind prog w) (tabV l1)) (db : ob.IsDictOf (PySem.strKind prog w) (tabV l2)) (he : l1.map (fun p => (p.1, p.2.1)) = l2.map (fun p => (p.1, p.2.1))) (hu : A.units < cLine) (h : Q (.bool false) s) : wpAny (model prog w) A (compareOp .NotEq (.ref a) (.ref b)) Q E s := by
  have hn : (l2.map (·.1)).Nodup := by
    obtain ⟨_, _, _, _, _, _, h⟩ := db
    rw [tabV, List.map_map] at h; exact h
  have hl : (tabV l1).length = (tabV l2).length := by have := congrArg List.length he; simpa [tabV] using this
  refine keq_ne (knd := PySem.strKind prog w) (r := true) ha hb (Heap.dictOf_iff.mpr ⟨oa, (N _ ma).1, da⟩) (Heap.dictOf_iff.mpr ⟨ob, (N _ mb).1, db⟩) hu (fun _ => tab_hits hn fun p hp => ?_) (by rw [hl]; simpa using h)
  have : (p.1, p.2.1) ∈ l2.map (fun p => (p.1, p.2.1)) := he ▸ List.mem_map_of_mem hp
  obtain ⟨q, hq, e⟩ := List.mem_map.mp this
  exact ⟨q, hq, (Prod.mk.inj e).1, (Prod.mk.inj e).2⟩
/-- what is told of an element: nothing or a word -/
def TV (ats : List (Nat × Str × Str)) (v : Value) : Prop := (toldP ats = none ∧ v = .none) ∨ ∃ x t, toldP ats = some x ∧ v = .str x t
theorem eqAt_tv {ats : List (Nat × Str × Str)} {v u : Value} (h1 : TV ats v) (h2 : TV ats u) : SeqAt.EqAt A s v u true := by
  rcases h1 with ⟨e1, rfl⟩ | ⟨x, t, e1, rfl⟩ <;> rcases h2 with ⟨e2, rfl⟩ | ⟨y, t', e2, rfl⟩
  · exact SeqAt.EqAt.same _
  · rw [e1] at e2; cases e2
  · rw [e1] at e2; cases e2
  · rw [e1] at e2; cases e2
    have := SeqAt.EqAt.str_str (A := A) (s := s) x t x t'
    rwa [beq_self_eq_true] at this
theorem ne_tv {ats : List (Nat × Str × Str)} {v u : Value} {Q : Value → Shared → Prop} (h1 : TV ats v) (h2 : TV ats u) (h : Q (.bool false) s) : wpAny (model prog w) A (compareOp .NotEq v u) Q E s := by
  rcases h1 with ⟨e1, rfl⟩ | ⟨x, t, e1, rfl⟩ <;> rcases h2 with ⟨e2, rfl⟩ | ⟨y, t', e2, rfl⟩
  · exact EqNone.ne_none_none h
  · rw [e1] at e2; cases e2
  · rw [e1] at e2; cases e2
  · rw [e1] at e2; cases e2
    exact ne_str (by simpa using h)
theorem c_idofT (w : World) (T : TreeS) (D : DtdS) (nd : Nd) (k : Nat) (tk : Tok) (ats : List (Nat × Str × Str)) (news : Led) (hT : TreeIn news T) (hD : DtdIn w news D) (hz : TOk T) (hn : T.nodes[k]? = some nd) (hnm : nd.name = Str.ofString "e") (hat : AttrsOk T nd ats) :
    Con w 7 163 [.ref T.t, .int ((k : Nat) : Int) tk, .ref D.o] news (fun news' r => ∃ v b, TV ats v ∧ r = v ∧ news' = (fun (_ : Nat) => news) b) := by
  have := c_idof w T D nd k tk ats news hT hD hz hn hnm hat
  unfold Con at this ⊢
  intro loose mean mg mb dp un gd cn cs a ccd cl outer A₀ base h₀ L m s Q E B F X N T hk hdp hun hret
  exact this loose mean mg mb dp un gd cn cs a ccd cl outer A₀ base h₀ L m s Q E B F X N T hk hdp hun fun r n' h' tk' F' N' p => hret r n' h' tk' F' N' ⟨r, 0, p.2, rfl, p.1⟩
end
theorem rows_of {rn : Led} {vs : List Value} {es : List El} {j : Nat} {v : Value} (h : DatAll rn vs (es.map rowD)) (hv : vs[j]? = some v) : ∃ (e : El) (rt : Addr) (t : Tok) (ov pv : Value) (n : Nat), es[j]? = some e ∧ v = .ref rt ∧ (rt, ({ cls := .type "tuple", data := .seq #[.int ((e.id : Nat) : Int) t, ov, pv] n } : Obj)) ∈ rn ∧ DatIn rn ov (ownD e.ats) ∧ DatIn rn pv (.list (pd (pairsP e.ats))) := by
  have hl := h.length
  rw [List.length_map] at hl
  have hj := (List.getElem?_eq_some_iff.mp hv).1
  have he : es[j]? = some (es[j]'(by omega)) := List.getElem?_eq_getElem _
  obtain ⟨rt, t, ov, pv, n, h1, h2, h3, h4⟩ := rows_at h he
  rw [hv] at h1; cases h1
  exact ⟨_, rt, t, ov, pv, n, he, rfl, h2, h3, h4⟩
theorem rows_len {rn : Led} {vs : List Value} {es : List El} (h : DatAll rn vs (es.map rowD)) : vs.length = es.length := by
  have hl := h.length
  rwa [List.length_map] at hl
-- the loop that tells the table, every reference
structure LI (w : World) (tT dO ra : Addr) (R : Led) (es : List El) (i : Nat) (m₁ : Map) (od : Obj) (lt : List (Str × Nat × Tok)) (ev : Addr) (evs : List Value) : Prop where
  l1 : m₁ (Str.ofString "tree") = some (.ref tT)
  l2 : m₁ (Str.ofString "dtd") = some (.ref dO)
  l3 : ∃ t, m₁ (Str.ofString "root") = some (.int (((0 : Nat) : Nat) : Int) t)
  l4 : m₁ (Str.ofString "rows") = some (.ref ra)
  l5 : m₁ (Str.ofString "every") = some (.ref ev)
  d : od.IsDictOf (PySem.strKind PySem.Challenge.rw_sm0078_01.row.prog w) (tabV lt)
  t : lt.map (fun p => (p.1, p.2.1)) = tabP (es.take i)
  e : DatAll R evs (pd (everyP (es.take i)))
theorem loop_names {h₀ h : Heap} {L ev td c1 x0 : Addr} {y0 od oc : Obj} {its : Array Value} {k : Nat} {rest : Led} (_N : News h₀ L h ((x0, y0) :: (ev, listOf its k) :: (td, od) :: (c1, oc) :: rest)) : ∃ ev' td' od' oc', ev' = ev ∧ td' = td ∧ od' = od ∧ oc' = oc := ⟨ev, td, od, oc, rfl, rfl, rfl, rfl⟩
theorem strs_dat {led : Led} : ∀ {vs : List Value} {xs : List Str}, DatAll led vs (xs.map Dat.str) → ∃ ws : List (Str × Tok), ws.map (·.1) = xs ∧ vs = strValues ws := by
  intro vs xs
  induction xs generalizing vs with
  | nil => intro h; cases h; exact ⟨[], rfl, rfl⟩
  | cons x xs ih =>
    intro h
    cases h with
    | cons hd hr =>
      cases hd with
      | str x t =>
        obtain ⟨ws, e1, e2⟩ := ih hr
        exact ⟨(x, t) :: ws, by rw [List.map_cons, e1], by rw [e2]; rfl⟩
theorem own_of {led : Led} {v : Value} {ats : List (Nat × Str × Str)} (hb : ∀ q ∈ ats, q.2.2.cps.size ≤ 1000) (h : DatIn led v (ownD ats)) : (v = .none ∧ toldP ats = none) ∨ (∃ oa x t n, v = .ref oa ∧ (oa, listOf [Value.str x t].toArray n) ∈ led ∧ toldP ats = some x) ∨ ∃ (oa : Addr) (vs : List Value) (n : Nat), v = .ref oa ∧ (oa, listOf vs.toArray n) ∈ led ∧ vs.length ≠ 1 ∧ vs.length ≤ 10000 ∧ toldP ats = none := by
  unfold ownD at h
  unfold toldP
  cases e : ats.find? (fun q => q.2.1 == Str.ofString "i") with
  | none => rw [e] at h; cases h; exact .inl ⟨rfl, rfl⟩
  | some q =>
    rw [e] at h
    dsimp only at h ⊢
    cases h with
    | list hm hr =>
      refine .inr ?_
      obtain ⟨ws, hw, hv⟩ : ∃ ws : List (Str × Tok), ws.map (·.1) = partB q.2.2 ∧ _ = strValues ws := strs_dat hr
      subst hv
      have hl := part_len (hb q (List.mem_of_find?_eq_some e))
      rw [← hw, List.length_map] at hl
      rw [← hw]
      rcases ws with _ | ⟨p, _ | ⟨p', r⟩⟩
      · exact .inr ⟨_, _, _, rfl, hm, by simp [strValues], by simp [strValues], rfl⟩
      · exact .inl ⟨_, _, _, _, rfl, hm, rfl⟩
      · exact .inr ⟨_, _, _, rfl, hm, by simp [strValues], by rw [strValues_len]; omega, rfl⟩
theorem vals_ok {T : TreeS} {nd : Nd} {ats : List (Nat × Str × Str)} (hz : TOk T) (hat : AttrsOk T nd ats) : ∀ q ∈ ats, q.2.2.cps.size ≤ 1000 := fun q hq => by
  obtain ⟨an, h1, h2, h3⟩ := hat.2 q hq
  have := (hz.2 an (List.mem_of_getElem? h1)).2.2.2
  rw [← h3]; omega
theorem list_of {led : Led} {v : Value} {ds : List Dat} (h : DatIn led v (.list ds)) : ∃ pa vs n, v = .ref pa ∧ (pa, listOf vs.toArray n) ∈ led ∧ DatAll led vs ds := by
  cases h with
  | list hm hr => exact ⟨_, _, _, rfl, hm, hr⟩
theorem pd_append (a b : List (Nat × Str)) : pd (a ++ b) = pd a ++ pd b := by simp [pd]
theorem every_add {T : TreeS} {es : List El} {e : El} {i a b : Nat} (hz : TOk T) (he : ∀ e ∈ es, ElOk T e) (hl : es.length ≤ 6) (hje : es[i]? = some e) (ha : a = (pd (everyP (es.take i))).length) (hb : b = (pd (pairsP e.ats)).length) : a + b ≤ 1000000 := by
  have h1 := everyP_len hz (es := es.take i) fun x hx => he x (List.mem_of_mem_take hx)
  have h2 := everyP_len hz (es := [e]) fun x hx => by rw [List.mem_singleton.mp hx]; exact he e (List.mem_of_getElem? hje)
  have h3 : everyP [e] = pairsP e.ats := by simp [everyP]
  rw [h3] at h2
  rw [List.length_take] at h1
  have hi := (List.getElem?_eq_some_iff.mp hje).1
  simp only [List.length_cons, List.length_nil] at h2
  simp only [pd, List.length_map] at ha hb
  omega
theorem tab_small {es : List El} {lt : List (Str × Nat × Tok)} {i : Nat} (h : lt.map (fun p => (p.1, p.2.1)) = tabP (es.take i)) (hl : es.length ≤ 6) : (tabV lt).length ≤ sizeLine := by
  have h1 := tabP_len (es.take i)
  rw [← h, List.length_map, List.length_take] at h1
  rw [sizeLine_eq, tabV, List.length_map]; omega
theorem rows_vals {rn : Led} {vs : List Value} {es : List El} (h : DatAll rn vs (es.map rowD)) : ∃ vals : Nat → List Value, ∀ (j : Nat) (v : Value), vs[j]? = some v → ∃ (e : El) (t : Tok) (ov : Value) (pa : Addr) (pvs : List Value) (n : Nat), es[j]? = some e ∧ vals j = [.int ((e.id : Nat) : Int) t, ov, .ref pa] ∧ (pa, listOf pvs.toArray n) ∈ rn ∧ DatAll rn pvs (pd (pairsP e.ats)) ∧ ∃ (rt : Addr) (m : Nat), v = .ref rt ∧ (rt, ({ cls := .type "tuple", data := .seq (vals j).toArray m } : Obj)) ∈ rn := by
  have : ∀ j : Nat, ∃ w : List Value, ∀ v : Value, vs[j]? = some v → ∃ (e : El) (t : Tok) (ov : Value) (pa : Addr) (pvs : List Value) (n : Nat), es[j]? = some e ∧ w = [.int ((e.id : Nat) : Int) t, ov, .ref pa] ∧ (pa, listOf pvs.toArray n) ∈ rn ∧ DatAll rn pvs (pd (pairsP e.ats)) ∧ ∃ (rt : Addr) (m : Nat), v = .ref rt ∧ (rt, ({ cls := .type "tuple", data := .seq w.toArray m } : Obj)) ∈ rn := fun j => by
    cases e : vs[j]? with
    | none => exact ⟨[], fun v hv => by cases hv⟩
    | some v =>
      obtain ⟨e, rt, t, ov, pv, n, h1, h2, h3, h4, h5⟩ := rows_of h e
      obtain ⟨pa, pvs, kp, rfl, h6, h7⟩ := list_of h5
      exact ⟨[.int ((e.id : Nat) : Int) t, ov, .ref pa], fun v' hv' => by cases hv'; exact ⟨e, t, ov, pa, pvs, kp, h1, rfl, h6, h7, rt, n, h2, h3⟩⟩
  exact ⟨fun j => (this j).choose, fun j v hv => (this j).choose_spec v hv⟩
section
variable {prog : Program} {w : World} {A : Around} {E : Value → Shared → Prop} {s : Shared} {h₀ : Heap} {L : Addr} {news : Led}
theorem in_list_strs {l : Addr} {ws : List (Str × Tok)} {n : Nat} {x : Str} {t : Tok} {Q : Value → Shared → Prop} (N : News h₀ L s.heap news) (hm : (l, listOf (strValues ws).toArray n) ∈ news) (h : Q (.bool ((ws.map (·.1)).any fun y => y == x)) s) : wpAny (model prog w) A (compareOp .In (.str x t) (.ref l)) Q E s := by
  refine SeqAt.in_listAt (fun y => match y with | .str z _ => z == x | _ => false) (News.isList N hm) (fun y hy => ?_) ?_
  · obtain ⟨p, _, rfl⟩ := List.mem_map.mp (List.mem_toArray.mp hy)
    exact SeqAt.EqAt.str_str p.1 p.2 x t
  · have e : ((strValues ws).toArray.any fun y => match y with | .str z _ => z == x | _ => false) = (ws.map (·.1)).any fun y => y == x := by
      simp [strValues, List.any_map, Function.comp_def]
    rw [e]; exact h
end
theorem refB_any {e : El} {x : Str} {ws : List (Str × Tok)} (h : ws.map (·.1) = (pairsP e.ats).map (·.2)) : ((ws.map (·.1)).any fun y => y == x) = refB x e := by
  rw [h, List.any_map]; rfl
theorem every_le {T : TreeS} {es : List El} {vs : List Value} {R : Led} (hz : TOk T) (he : ∀ e ∈ es, ElOk T e) (hl : es.length ≤ 6) (h : DatAll R vs (pd (everyP es))) : vs.length ≤ 700000 := by
  have h1 := everyP_len hz (es := es) he
  have h2 := h.length
  rw [pd, List.length_map] at h2
  omega
theorem three_name {h₀ h : Heap} {L D : Addr} {ws : List (Str × Tok)} {x y z : Str} {a b c : Tok} {k : Nat} {rest : Led} (N : News h₀ L h ((D, listOf (strValues ws ++ [Value.str x a, Value.str y b, Value.str z c]).toArray k) :: rest)) : ∃ wl w3, wl = D ∧ News h₀ L h ((wl, listOf (strValues w3).toArray k) :: rest) :=
  ⟨D, ws ++ [(x, a), (y, b), (z, c)], rfl, by rw [show strValues (ws ++ [(x, a), (y, b), (z, c)]) = strValues ws ++ [.str x a, .str y b, .str z c] from by simp [strValues]]; exact N⟩

-- new_root
section
theorem w33 : True := by
  k_with_none
  (k_with "~my_fold" => ((fail_if_success (fail_if_success k_fold)); (refine (let qk := _; (?_ : wpAny _ _ _ qk _ _)))))
  (k_with "~my_state" => ((fail_if_success (fail_if_success (conv => arg 6; pattern PySem.Shared.mk _ _ _ _ _))); (refine (let sk := _; (?_ : wpAny _ _ _ _ _ sk)))))
  (k_with "~my_around" => ((try refine (let vk := _; (?_ : wpAny _ _ (execs _ vk) _ _ _))); (refine (let ak := _; (?_ : wpAny _ ak _ _ _ _)))))
  (k_with "~my_enter" => (refine wpAny_call ?_; k_dflt ktr_enter; (try walk_at "my_around")))
  (k_with "~use2" => (
  (first | (refine post00 ?_; intro h9z9 tk9z9 F9z9 N9z9) | (refine post10 ?_; intro x1z9 h9z9 tk9z9 F9z9 N9z9) | (refine post20 ?_; intro x1z9 x2z9 h9z9 tk9z9 F9z9 N9z9) | (refine post21 ?_; intro x1z9 x2z9 q1z9 h9z9 tk9z9 F9z9 N9z9) | (refine post22 ?_; intro x1z9 x2z9 q1z9 q2z9 h9z9 tk9z9 F9z9 N9z9) | (refine post31 ?_; intro x1z9 x2z9 x3z9 q1z9 h9z9 tk9z9 F9z9 N9z9) | (refine post32 ?_; intro x1z9 x2z9 x3z9 q1z9 q2z9 h9z9 tk9z9 F9z9 N9z9) | (refine post33 ?_; intro x1z9 x2z9 x3z9 q1z9 q2z9 q3z9 h9z9 tk9z9 F9z9 N9z9) | (refine post41 ?_; intro x1z9 x2z9 x3z9 x4z9 q1z9 h9z9 tk9z9 F9z9 N9z9))
  (try walk_at "my_fold")
  (try dsimp only)
  (try k_sweep)
  (try walk_at "my_fold")))
  (k_with "~my_tail" => first | assumption | (refine' List.mem_cons_of_mem _ ?_; walk_at "my_tail"))
  (k_with "~my_sub" => first | exact fun _ hpz9 => hpz9 | exact List.forall_mem_nil _ | (refine' List.forall_mem_cons.mpr ⟨?_, ?_⟩; k_mem; walk_at "my_sub") | (intro pz9 hpz9; walk_at "my_tail"))
  (k_with "k_units" => ktr_units)
  (k_with "k_mem" => first | exact List.mem_cons_self | ktr_member | (refine' List.mem_cons_of_mem _ ?_; k_mem))
  (k_with "~my_and" => first | assumption | (refine And.right ?_; walk_at "my_and"))
  (k_with "~my_fresh" => first | assumption | exact ne_of_lts (by assumption) | exact ne_of_allLt (by first | assumption | exact And.right (by assumption) | exact And.right (And.right (by assumption)) | exact And.right (And.right (And.right (by assumption))) | exact And.right (And.right (And.right (And.right (by assumption)))) | exact And.right (And.right (And.right (And.right (And.right (by assumption))))) | exact And.right (And.right (And.right (And.right (And.right (And.right (by assumption)))))) | exact And.right (And.right (And.right (And.right (And.right (And.right (And.right (by assumption))))))) | exact And.right (And.right (And.right (And.right (And.right (And.right (And.right (And.right (by assumption))))))))))
  (k_with "~my_off" => first | assumption | exact List.forall_mem_nil _ | (refine' List.forall_mem_cons.mpr ⟨?_, ?_⟩; (first | k_ne | exact (by assumption : ∀ pz9 ∈ (_ : Led), pz9.1 ≠ _) _ (by k_mem)); walk_at "my_off") | (intro pz9 hpz9; first | exact (by assumption : ∀ pz9 ∈ (_ : Led), pz9.1 ≠ _) pz9 hpz9 | exact (by assumption : ∀ pz9 ∈ (_ : Led), pz9.1 ≠ _) pz9 (by walk_at "my_tail") | (have h9z9 := ltN ((by assumption : ∀ pz9 ∈ (_ : Led), pz9.1 < _) pz9 hpz9); refine neN ?_; omega)))
  (k_with "k_all" => walk_at "my_off")
  (k_with "~my_lt" => first | assumption | exact And.left (by assumption) | exact And.left (And.right (by assumption)) | exact And.left (And.right (And.right (by assumption))) | exact And.left (And.right (And.right (And.right (by assumption)))) | exact And.left (And.right (And.right (And.right (And.right (by assumption))))) | exact And.left (And.right (And.right (And.right (And.right (And.right (by assumption)))))) | exact And.left (And.right (And.right (And.right (And.right (And.right (And.right (by assumption))))))) | exact And.left (And.right (And.right (And.right (And.right (And.right (And.right (And.right (by assumption)))))))) | exact And.left (And.right (And.right (And.right (And.right (And.right (And.right (And.right (And.right (by assumption))))))))) | exact And.left (And.right (And.right (And.right (And.right (And.right (And.right (And.right (And.right (And.right (by assumption)))))))))) | exact And.left (And.right (And.right (And.right (And.right (And.right (And.right (And.right (And.right (And.right (And.right (by assumption))))))))))) | exact And.left (And.right (And.right (And.right (And.right (And.right (And.right (And.right (And.right (And.right (And.right (And.right (by assumption)))))))))))) | exact And.left (And.right (And.right (And.right (And.right (And.right (And.right (And.right (And.right (And.right (And.right (And.right (And.right (by assumption))))))))))))) | exact And.left (And.right (And.right (And.right (And.right (And.right (And.right (And.right (And.right (And.right (And.right (And.right (And.right (And.right (by assumption)))))))))))))) | exact And.left (And.right (And.right (And.right (And.right (And.right (And.right (And.right (And.right (And.right (And.right (And.right (And.right (And.right (And.right (by assumption))))))))))))))) | exact And.left (And.right (And.right (And.right (And.right (And.right (And.right (And.right (And.right (And.right (And.right (And.right (And.right (And.right (And.right (And.right (by assumption)))))))))))))))))
  (k_with "k_ne" => (refine neN ?_; (try dsimp only); first | assumption | exact Ne.symm (by assumption) | (refine Nat.ne_of_lt ?_; walk_at "my_lt") | (refine Nat.ne_of_gt ?_; walk_at "my_lt") | omega))
  (k_with "~my_for" => (k_here; (rename Fr _ _ _ _ => lF'z9); (with_unfolding_all refine' for_any lF'z9 ?_); (try walk_at "my_fold"); walk_say "MY FOR"))
  (k_with "~my_look" => first | with_reducible assumption | rfl | assumption)
  (k_with "~exec For Name Name cons nil" => walk_at "my_for")
  (k_with "~exec For Name Call cons nil" => walk_at "my_for")
  (k_with "~exec For Name List cons nil" => walk_at "my_for")
  (k_with "~exec For Tuple Name cons nil" => walk_at "my_for")
  (k_with "~exec For Tuple Call cons nil" => walk_at "my_for")
  (k_with "~exec For Name BinOp cons nil" => walk_at "my_for")
  (k_with "~TurnA" => (dsimp only [TurnA]))
  (k_with "~eval ListComp" => (k_here; k_dflt (refine' comp_any (by k_asm) (by with_unfolding_all rfl) (by decide) (by rfl) (by decide) (by decide) ?_); (try k_fold); walk_say "MY COMP"))
  (k_with "~exec Assign cons ListComp" => (k_here; k_dflt (refine' comp_assign (by k_asm) (by rfl) (by with_unfolding_all rfl) (by with_unfolding_all rfl) (by decide) (by rfl) (by decide) (by rfl) (by rfl) (by decide) ?_); (try k_fold); walk_say "MY COMP"))
  (k_with "~TestElt" => (dsimp only [TestElt]; (try k_fold)))
  (k_with "~compareOp In str ref" => (k_here; k_dflt (refine' in_tuple_strs (tupK (by k_in) (by k_is)) (by repeat constructor) ?_)))
  (k_with "~compareOp In str ref" => (k_here; k_dflt (refine' in_tuple_strs (News.isTup (by k_asm) (by k_mem)) (by repeat constructor) ?_)))
  (k_with "~my_strs" => first | exact StrsIn.of _ | exact StrsIn.nil | exact StrsIn.one _ _)
  (k_with "~compareOp Eq ref ref" => (k_here; k_dflt (refine' eq_strs (by k_asm) (by k_mem) (by k_mem) (by walk_at "my_strs") (by walk_at "my_strs") (by k_units) ?_)))
  (k_with "~compareOp NotEq ref ref" => (k_here; k_dflt (refine' ne_strs (by k_asm) (by k_mem) (by k_mem) (by walk_at "my_strs") (by walk_at "my_strs") (by k_units) ?_)))
  (k_with "~my_size" => (simp only [List.size_toArray, strValues, List.length_map, Array.length_toList, List.length_append, List.length_dropLast, List.length_cons, List.length_nil, sizeLine_eq]; omega))
  (k_with "~subscriptTail Name Slice ref ref" => (k_here; (with_reducible show wpAny _ _ (subscriptTail _ (PySem.Expr.Slice none _ none _) (Value.ref _) (Value.ref _)) _ _ _); k_dflt (refine' kms_slice_lit (by k_asm) (by k_asm) (by exact News.isList (by k_asm) (by k_mem)) (by kmk_part) (by kmk_part) (by exact pick_dropLast _) ?_ (by with_unfolding_all rfl) (by kmk_pure) (by walk_at "my_size")); intro D'z9 h'z9 F'z9 N'z9 l1z9; (try k_lt l1z9); (try k_sweep)))
  (k_with "~subscriptTail Name UnaryOp ref int" => (k_here; (with_reducible show wpAny _ _ (subscriptTail _ _ (Value.ref _) (Value.int _ _)) _ _ _); k_dflt (refine' item_last (by exact News.isList (by k_asm) (by k_mem)) (by assumption) ?_)))
  (k_with "~binaryOp Add ref ref" => (k_here; k_dflt (refine' kmk_add_lit (by k_asm) (by k_asm) (by exact News.isList (by k_asm) (by k_mem)) (by exact News.isList (by k_asm) (by k_mem)) (by first | exact add_one _ _ _ | exact add_two _ _) ?_ (by walk_at "my_size")); intro D'z9 h'z9 F'z9 N'z9 l1z9; (try k_lt l1z9); (try k_sweep)))
  (k_with "~call ref" => (k_here; (with_reducible show wpAny _ _ (call (Value.ref 52) _) _ _ _); ktf_call (c_small _ _ _ _)))
  (k_with "~my_signs" => (law_clear; simp only [s_a, s_z, s_A, s_Z, s_0, s_9, lt1, str1_eq, e_us, e_co, e_mi, e_do, smallB_iff, startB_iff, charB_iff, ← decide_not, decide_eq_decide, decide_eq_true_eq, decide_eq_false_iff_not, decide_eq_true_eq, eq_comm (a := true), Bool.not_eq_true, Bool.not_eq_false] at *; omega))
  (k_with "~call ref" => (k_here; (with_reducible show wpAny _ _ (call (Value.ref 59) _) _ _ _); ktf_call (c_start _ _ _ _ (by assumption))))
  (k_with "~call ref" => (k_here; (with_reducible show wpAny _ _ (call (Value.ref 66) _) _ _ _); ktf_call (c_char _ _ _ _ (by assumption))))
  (k_with "~call ref" => (k_here; (with_reducible show wpAny _ _ (call (Value.ref 73) _) _ _ _); ktf_call (c_nmtoken _ _ _ _ (by assumption))))
  (k_with "~call ref" => (k_here; (with_reducible show wpAny _ _ (call (Value.ref 80) _) _ _ _); ktf_call (c_name _ _ _ _ (by assumption))))
  (k_with "~call ref" => (k_here; (with_reducible show wpAny _ _ (call (Value.ref 121) _) _ _ _); ktf_call (c_blank _ _ _ _ (by assumption))))
  (k_with "~call ref" => (k_here; (with_reducible show wpAny _ _ (call (Value.ref 128) _) _ _ _); ktf_call (c_norm _ _ _ _ _ _ (by assumption))))
  (k_with "~call ref" => (k_here; (with_reducible show wpAny _ _ (call (Value.ref 135) _) _ _ _); ktf_call (c_words _ _ _ _ _ _ (by assumption))))
  (k_with "~call ref" => (k_here; (with_reducible show wpAny _ _ (call (Value.ref 142) _) _ _ _); ktf_call (c_isword _ _ _ _ _ _ (by assumption))))
  (k_with "~call ref" => (k_here; (with_reducible show wpAny _ _ (call (Value.ref 149) _) _ _ _); ktf_call (c_fits _ _ _ _ _ _ _ _ _ _ _ _ _ _ _ _ _ _ _ _ (by assumption) (by assumption) (by k_mem) (by k_mem) (by k_mem) (by assumption))))
  (k_with "~call ref" => (k_here; (with_reducible show wpAny _ _ (call (Value.ref 566) _) _ _ _); ktf_call (c_lawword _ _ _ _ _ (by assumption) (by assumption))))
  (k_with "~call ref" => (k_here; (with_reducible show wpAny _ _ (call (Value.ref 561) _) _ _ _); ktf_call (c_parted _ _ _ _ (by assumption) (by assumption))))
  (k_with "~call builtin:len" => (k_here; (with_reducible show wpAny _ _ (call (Value.builtin _) [Value.ref _]) _ _ _); k_dflt (refine' len_at (by exact News.isList (by k_asm) (by k_mem)) (by first | omega | ((simp only [List.length_cons, List.length_nil, List.length_append, List.length_map, strValues]); omega)) ?_)))
  (k_with "~my_pick" => first | exact Pick.head | (refine' Pick.tail (by walk_at "my_pick")))
  (k_with "~call ref" => (k_here; (with_reducible show wpAny _ _ (call (Value.ref 542) _) _ _ _); ktr_call (c_take _ _ _ _ _ _ (by assumption) (by first | assumption | decide) (by first | assumption | decide) (by walk_at "my_off")) ()))
  (k_with "~call ref" => (k_here; (with_reducible show wpAny _ _ (call (Value.ref 549) _) _ _ _); ktr_call (c_one _ _ _ _ _ _ _ (by assumption) (by k_mem) (by first | assumption | exact Nat.le_of_ble_eq_true rfl) (by first | assumption | exact Nat.le_of_ble_eq_true rfl) (by walk_at "my_off")) ()))
  (k_with "~call ref" => (k_here; (with_reducible show wpAny _ _ (call (Value.ref 554) _) _ _ _); ktr_call (c_value _ _ _ _ (by assumption) (by walk_at "my_off")) ()))
  (k_with "~call ref" => (k_here; (with_reducible show wpAny _ _ (call (Value.ref 571) _) _ _ _); ktf_call (c_kind _ _ _ _ _ _ (by first | assumption | decide +kernel) (by k_asm))))
  (k_with "~my_tree" => first | assumption | (refine TreeIn.mono ?_ (by assumption); walk_at "my_sub"))
  (k_with "~call ref" => (k_here; (with_reducible show wpAny _ _ (call (Value.ref 367) _) _ _ _); ktf_call (c_row _ _ _ _ _ _ (by walk_at "my_tree") (by assumption) (by assumption))))
  (k_with "~call ref" => (k_here; (with_reducible show wpAny _ _ (call (Value.ref 444) _) _ _ _); ktf_call (c_tkind _ _ _ _ _ _ (by walk_at "my_tree") (by assumption) (by assumption))))
  (k_with "~call ref" => (k_here; (with_reducible show wpAny _ _ (call (Value.ref 451) _) _ _ _); ktf_call (c_tname _ _ _ _ _ _ (by walk_at "my_tree") (by assumption) (by assumption))))
  (k_with "~call ref" => (k_here; (with_reducible show wpAny _ _ (call (Value.ref 472) _) _ _ _); ktf_call (c_tvalue _ _ _ _ _ _ (by walk_at "my_tree") (by assumption) (by assumption))))
  (k_with "~call ref" => (k_here; (with_reducible show wpAny _ _ (call (Value.ref 486) _) _ _ _); ktf_call (c_children _ _ _ _ _ _ (by walk_at "my_tree") (by assumption) (by assumption))))
  (k_with "~call ref" => (k_here; (with_reducible show wpAny _ _ (call (Value.ref 493) _) _ _ _); ktf_call (c_attributes _ _ _ _ _ _ (by walk_at "my_tree") (by assumption) (by assumption))))
  (k_with "~call ref" => (k_here; (with_reducible show wpAny _ _ (call (Value.ref 451) _) _ _ _); ktf_call (c_tnameX _ _ _ _ _ _ _ (by walk_at "my_tree") (by assumption) (by assumption) (by first | assumption | exact rfl))))
  (k_with "k_ne" => (refine neN ?_; (try dsimp only); first | assumption | exact Ne.symm (by assumption) | (refine Nat.ne_of_lt ?_; walk_at "my_lt") | (refine Nat.ne_of_gt ?_; walk_at "my_lt") | omega | exact ne_of_mem (by assumption) (by k_mem) | exact Ne.symm (ne_of_mem (by assumption) (by k_mem))))
  (k_with "~exec While Compare cons nil" => (k_here; (rename Fr _ _ _ _ => lF'z9); (with_unfolding_all refine' while_any lF'z9 ?_); walk_say "MY WHILE"))
  (k_with "~my_ints" => first | exact IntsIn.of _ | exact IntsIn.nil | exact IntsIn.snoc _ _ _)
  (k_with "~compareOp Eq ref ref" => (k_here; k_dflt (refine' eq_ints (by k_asm) (by k_mem) (by k_mem) (by walk_at "my_ints") (by walk_at "my_ints") (by k_units) ?_)))
  (k_with "~compareOp NotEq ref ref" => (k_here; k_dflt (refine' ne_ints (by k_asm) (by k_mem) (by k_mem) (by walk_at "my_ints") (by walk_at "my_ints") (by k_units) ?_)))
  (k_with "~my_size" => (simp only [List.size_toArray, strValues, intVals, refVals, List.length_map, Array.length_toList, List.length_append, List.length_reverse, List.length_dropLast, List.length_cons, List.length_nil, sizeLine_eq]; omega))
  (k_with "~call builtin:list.append" => (k_here; (with_reducible show wpAny _ _ (call (Value.builtin _) [Value.ref _, _]) _ _ _); k_dflt (refine' append_my (by k_asm) (by k_asm) (by k_upd) (by walk_at "my_size") ?_); intro h'z9 F'z9 N'z9; (try k_sweep)))
  (k_with "~call builtin:list.pop" => (k_here; (with_reducible show wpAny _ _ (call (Value.builtin _) [Value.ref _]) _ _ _); k_dflt (refine' pop_my (by k_asm) (by k_asm) (by k_upd) (by walk_at "my_size") ?_); intro h'z9 F'z9 N'z9; (try k_sweep)))
  (k_with "~call builtin:list.extend" => (k_here; (with_reducible show wpAny _ _ (call (Value.builtin _) [Value.ref _, Value.ref _]) _ _ _); k_dflt (refine' extend_my (by k_asm) (by k_asm) (by k_mem) (by (intro k8z9; k_upd)) (by walk_at "my_size") ?_); intro k9z9 h'z9 F'z9 N'z9; (try dsimp only at N'z9); (try k_sweep)))
  (k_with "~subscriptTail Name Slice ref ref" => (k_here; (with_reducible show wpAny _ _ (subscriptTail _ (PySem.Expr.Slice none none (some _) _) (Value.ref _) (Value.ref _)) _ _ _); k_dflt (refine' rev_my (by k_asm) (by k_asm) (by exact News.isList (by k_asm) (by k_mem)) (by exact IsPart.int _ _) (by with_unfolding_all rfl) (by kmk_pure) (by walk_at "my_size") ?_); intro D'z9 h'z9 F'z9 N'z9 l1z9; (try k_lt l1z9); (try k_sweep)))
  (k_with "~my_dtd" => first | assumption | (refine DtdIn.mono ?_ (by assumption); walk_at "my_sub"))
  (k_with "~call ref" => (k_here; (with_reducible show wpAny _ _ (call (Value.ref 289) _) _ _ _); ktf_call (c_idname _ _ _ _ (by walk_at "my_dtd"))))
  (k_with "~call ref" => (k_here; (with_reducible show wpAny _ _ (call (Value.ref 277) _) _ _ _); ktf_call (c_rule _ _ _ _ _ _ _ (by walk_at "my_dtd") (by assumption))))
  (k_with "~call ref" => (k_here; (with_reducible show wpAny _ _ (call (Value.ref 156) _) _ _ _); ktf_call (c_walk _ _ _ _ _ _ (by walk_at "my_tree") (by assumption) (by assumption) (by assumption) (by assumption))))
  (k_with "~call ref" => (k_here; (with_reducible show wpAny _ _ (call (Value.ref 170) _) _ _ _); ktf_call (c_idtable _ _ _ _ _ _ (by walk_at "my_tree") (by walk_at "my_dtd") (by assumption) (by assumption))))
  (k_with "~my_tail" => first | assumption | (refine' List.mem_cons_of_mem _ ?_; walk_at "my_tail") | (refine' List.mem_append_left _ ?_; walk_at "my_tail") | (refine' List.mem_append_right _ ?_; walk_at "my_tail"))
  (k_with "k_mem" => first | exact List.mem_cons_self | ktr_member | (refine' List.mem_cons_of_mem _ ?_; k_mem) | (refine' List.mem_append_right _ ?_; k_mem) | (refine' List.mem_append_left _ ?_; k_mem))
  (k_with "~my_sub" => first | exact fun _ hpz9 => hpz9 | exact List.forall_mem_nil _ | (refine' List.forall_mem_cons.mpr ⟨?_, ?_⟩; k_mem; walk_at "my_sub") | (intro pz9 hpz9; walk_at "my_tail") | (refine' List.forall_mem_append.mpr ⟨?_, ?_⟩; walk_at "my_sub"; walk_at "my_sub"))
  (k_with "~call ref" => (k_here; (with_reducible show wpAny _ _ (call (Value.ref 184) _) _ _ _); ktf_call (c_broken _ _ _ _ _ _ (by walk_at "my_tree") (by walk_at "my_dtd") (by assumption) (by assumption))))
  (k_with "~call ref" => (k_here; (with_reducible show wpAny _ _ (call (Value.ref 177) _) _ _ _); ktf_call (c_refs _ _ _ _ _ _ _ _ (by walk_at "my_tree") (by walk_at "my_dtd") (by assumption) (by assumption) (by assumption) (by assumption) (by assumption))))
  (k_with "~call ref" => (k_here; (with_reducible show wpAny _ _ (call (Value.ref 189) _) _ _ _); ktf_call (c_referring _ _ _ _ _ _ _ _ (by walk_at "my_tree") (by walk_at "my_dtd") (by assumption) (by assumption))))
  (k_with "~my_below" => first | assumption | exact ktn_ltOf (by first | assumption | exact And.right (by assumption) | exact And.right (And.right (by assumption)) | exact And.right (And.right (And.right (by assumption))) | exact And.right (And.right (And.right (And.right (by assumption))))))
  (k_with "k_room" => ktr_room)
  (k_with "~call ref" => (k_here; (with_reducible show wpAny _ _ (call (Value.ref 360) _) _ _ _); refine stopHere ?_))
  trivial
set_option maxHeartbeats 1600000 in
theorem c_newroot (w : World) (t td rl : Addr) (h : Int) (tk : Tok) (n n0 : Nat) (R : Led) (h1 : (t, instObj 524 td) ∈ R) (h2 : (td, dictOf [⟨h, .str (Str.ofString "rows") tk, .ref rl⟩] n) ∈ R) (hR : ∀ p ∈ R, p.1 ≠ rl) :
    Con w 5 374 [.ref t] ((rl, listOf #[] n0) :: R) (fun news' r => ∃ nw nd n1 tk, (NodeIn nw nd ∧ vw nd = rootPN ∧ Fr2 nw ((rl, listOf #[] n0) :: R) ∧ @Ne Nat nd.ck nd.ak) ∧ r = .int (((0 : Nat) : Nat) : Int) tk ∧ news' = (rl, listOf #[Value.ref nd.r] n1) :: (R ++ nw)) := by
  unfold Con; k_fill; intro loose mean mg mb dp un gd cn cs a ccd cl outer A₀ base h₀ L m s Q E B F X N Tp hk hdp hun hret; walk_at "my_enter"
  k_steps
  unfold StopHere
  ktf_call (c_newrow w t td rl _ _ _ _ _ _ _ _ _ [] _ _ _ _ R h1 h2 (by simp) hR)
  rename NodeIn _ _ ∧ _ => hf
  k_steps
  exact hret _ _ _ _ (by k_asm) (by k_asm) ⟨_, _, _, _, hf, rfl, rfl⟩
end

-- _law_tree_right
section
theorem w34 : True := by
  k_with_none
  (k_with "~my_fold" => ((fail_if_success (fail_if_success k_fold)); (refine (let qk := _; (?_ : wpAny _ _ _ qk _ _)))))
  (k_with "~my_state" => ((fail_if_success (fail_if_success (conv => arg 6; pattern PySem.Shared.mk _ _ _ _ _))); (refine (let sk := _; (?_ : wpAny _ _ _ _ _ sk)))))
  (k_with "~my_around" => ((try refine (let vk := _; (?_ : wpAny _ _ (execs _ vk) _ _ _))); (refine (let ak := _; (?_ : wpAny _ ak _ _ _ _)))))
  (k_with "~my_enter" => (refine wpAny_call ?_; k_dflt ktr_enter; (try walk_at "my_around")))
  (k_with "~use2" => (
  (first | (refine post00 ?_; intro h9z9 tk9z9 F9z9 N9z9) | (refine post10 ?_; intro x1z9 h9z9 tk9z9 F9z9 N9z9) | (refine post20 ?_; intro x1z9 x2z9 h9z9 tk9z9 F9z9 N9z9) | (refine post21 ?_; intro x1z9 x2z9 q1z9 h9z9 tk9z9 F9z9 N9z9) | (refine post22 ?_; intro x1z9 x2z9 q1z9 q2z9 h9z9 tk9z9 F9z9 N9z9) | (refine post31 ?_; intro x1z9 x2z9 x3z9 q1z9 h9z9 tk9z9 F9z9 N9z9) | (refine post32 ?_; intro x1z9 x2z9 x3z9 q1z9 q2z9 h9z9 tk9z9 F9z9 N9z9) | (refine post33 ?_; intro x1z9 x2z9 x3z9 q1z9 q2z9 q3z9 h9z9 tk9z9 F9z9 N9z9) | (refine post41 ?_; intro x1z9 x2z9 x3z9 x4z9 q1z9 h9z9 tk9z9 F9z9 N9z9))
  (try walk_at "my_fold")
  (try dsimp only)
  (try k_sweep)
  (try walk_at "my_fold")))
  (k_with "~my_tail" => first | assumption | (refine' List.mem_cons_of_mem _ ?_; walk_at "my_tail"))
  (k_with "~my_sub" => first | exact fun _ hpz9 => hpz9 | exact List.forall_mem_nil _ | (refine' List.forall_mem_cons.mpr ⟨?_, ?_⟩; k_mem; walk_at "my_sub") | (intro pz9 hpz9; walk_at "my_tail"))
  (k_with "k_units" => ktr_units)
  (k_with "k_mem" => first | exact List.mem_cons_self | ktr_member | (refine' List.mem_cons_of_mem _ ?_; k_mem))
  (k_with "~my_and" => first | assumption | (refine And.right ?_; walk_at "my_and"))
  (k_with "~my_fresh" => first | assumption | exact ne_of_lts (by assumption) | exact ne_of_allLt (by first | assumption | exact And.right (by assumption) | exact And.right (And.right (by assumption)) | exact And.right (And.right (And.right (by assumption))) | exact And.right (And.right (And.right (And.right (by assumption)))) | exact And.right (And.right (And.right (And.right (And.right (by assumption))))) | exact And.right (And.right (And.right (And.right (And.right (And.right (by assumption)))))) | exact And.right (And.right (And.right (And.right (And.right (And.right (And.right (by assumption))))))) | exact And.right (And.right (And.right (And.right (And.right (And.right (And.right (And.right (by assumption))))))))))
  (k_with "~my_off" => first | assumption | exact List.forall_mem_nil _ | (refine' List.forall_mem_cons.mpr ⟨?_, ?_⟩; (first | k_ne | exact (by assumption : ∀ pz9 ∈ (_ : Led), pz9.1 ≠ _) _ (by k_mem)); walk_at "my_off") | (intro pz9 hpz9; first | exact (by assumption : ∀ pz9 ∈ (_ : Led), pz9.1 ≠ _) pz9 hpz9 | exact (by assumption : ∀ pz9 ∈ (_ : Led), pz9.1 ≠ _) pz9 (by walk_at "my_tail") | (have h9z9 := ltN ((by assumption : ∀ pz9 ∈ (_ : Led), pz9.1 < _) pz9 hpz9); refine neN ?_; omega)))
  (k_with "k_all" => walk_at "my_off")
  (k_with "~my_lt" => first | assumption | exact And.left (by assumption) | exact And.left (And.right (by assumption)) | exact And.left (And.right (And.right (by assumption))) | exact And.left (And.right (And.right (And.right (by assumption)))) | exact And.left (And.right (And.right (And.right (And.right (by assumption))))) | exact And.left (And.right (And.right (And.right (And.right (And.right (by assumption)))))) | exact And.left (And.right (And.right (And.right (And.right (And.right (And.right (by assumption))))))) | exact And.left (And.right (And.right (And.right (And.right (And.right (And.right (And.right (by assumption)))))))) | exact And.left (And.right (And.right (And.right (And.right (And.right (And.right (And.right (And.right (by assumption))))))))) | exact And.left (And.right (And.right (And.right (And.right (And.right (And.right (And.right (And.right (And.right (by assumption)))))))))) | exact And.left (And.right (And.right (And.right (And.right (And.right (And.right (And.right (And.right (And.right (And.right (by assumption))))))))))) | exact And.left (And.right (And.right (And.right (And.right (And.right (And.right (And.right (And.right (And.right (And.right (And.right (by assumption)))))))))))) | exact And.left (And.right (And.right (And.right (And.right (And.right (And.right (And.right (And.right (And.right (And.right (And.right (And.right (by assumption))))))))))))) | exact And.left (And.right (And.right (And.right (And.right (And.right (And.right (And.right (And.right (And.right (And.right (And.right (And.right (And.right (by assumption)))))))))))))) | exact And.left (And.right (And.right (And.right (And.right (And.right (And.right (And.right (And.right (And.right (And.right (And.right (And.right (And.right (And.right (by assumption))))))))))))))) | exact And.left (And.right (And.right (And.right (And.right (And.right (And.right (And.right (And.right (And.right (And.right (And.right (And.right (And.right (And.right (And.right (by assumption)))))))))))))))))
  (k_with "k_ne" => (refine neN ?_; (try dsimp only); first | assumption | exact Ne.symm (by assumption) | (refine Nat.ne_of_lt ?_; walk_at "my_lt") | (refine Nat.ne_of_gt ?_; walk_at "my_lt") | omega))
  (k_with "~my_for" => (k_here; (rename Fr _ _ _ _ => lF'z9); (with_unfolding_all refine' for_any lF'z9 ?_); (try walk_at "my_fold"); walk_say "MY FOR"))
  (k_with "~my_look" => first | with_reducible assumption | rfl | assumption)
  (k_with "~exec For Name Name cons nil" => walk_at "my_for")
  (k_with "~exec For Name Call cons nil" => walk_at "my_for")
  (k_with "~exec For Name List cons nil" => walk_at "my_for")
  (k_with "~exec For Tuple Name cons nil" => walk_at "my_for")
  (k_with "~exec For Tuple Call cons nil" => walk_at "my_for")
  (k_with "~exec For Name BinOp cons nil" => walk_at "my_for")
  (k_with "~TurnA" => (dsimp only [TurnA]))
  (k_with "~eval ListComp" => (k_here; k_dflt (refine' comp_any (by k_asm) (by with_unfolding_all rfl) (by decide) (by rfl) (by decide) (by decide) ?_); (try k_fold); walk_say "MY COMP"))
  (k_with "~exec Assign cons ListComp" => (k_here; k_dflt (refine' comp_assign (by k_asm) (by rfl) (by with_unfolding_all rfl) (by with_unfolding_all rfl) (by decide) (by rfl) (by decide) (by rfl) (by rfl) (by decide) ?_); (try k_fold); walk_say "MY COMP"))
  (k_with "~TestElt" => (dsimp only [TestElt]; (try k_fold)))
  (k_with "~compareOp In str ref" => (k_here; k_dflt (refine' in_tuple_strs (tupK (by k_in) (by k_is)) (by repeat constructor) ?_)))
  (k_with "~compareOp In str ref" => (k_here; k_dflt (refine' in_tuple_strs (News.isTup (by k_asm) (by k_mem)) (by repeat constructor) ?_)))
  (k_with "~my_strs" => first | exact StrsIn.of _ | exact StrsIn.nil | exact StrsIn.one _ _)
  (k_with "~compareOp Eq ref ref" => (k_here; k_dflt (refine' eq_strs (by k_asm) (by k_mem) (by k_mem) (by walk_at "my_strs") (by walk_at "my_strs") (by k_units) ?_)))
  (k_with "~compareOp NotEq ref ref" => (k_here; k_dflt (refine' ne_strs (by k_asm) (by k_mem) (by k_mem) (by walk_at "my_strs") (by walk_at "my_strs") (by k_units) ?_)))
  (k_with "~my_size" => (simp only [List.size_toArray, strValues, List.length_map, Array.length_toList, List.length_append, List.length_dropLast, List.length_cons, List.length_nil, sizeLine_eq]; omega))
  (k_with "~subscriptTail Name Slice ref ref" => (k_here; (with_reducible show wpAny _ _ (subscriptTail _ (PySem.Expr.Slice none _ none _) (Value.ref _) (Value.ref _)) _ _ _); k_dflt (refine' kms_slice_lit (by k_asm) (by k_asm) (by exact News.isList (by k_asm) (by k_mem)) (by kmk_part) (by kmk_part) (by exact pick_dropLast _) ?_ (by with_unfolding_all rfl) (by kmk_pure) (by walk_at "my_size")); intro D'z9 h'z9 F'z9 N'z9 l1z9; (try k_lt l1z9); (try k_sweep)))
  (k_with "~subscriptTail Name UnaryOp ref int" => (k_here; (with_reducible show wpAny _ _ (subscriptTail _ _ (Value.ref _) (Value.int _ _)) _ _ _); k_dflt (refine' item_last (by exact News.isList (by k_asm) (by k_mem)) (by assumption) ?_)))
  (k_with "~binaryOp Add ref ref" => (k_here; k_dflt (refine' kmk_add_lit (by k_asm) (by k_asm) (by exact News.isList (by k_asm) (by k_mem)) (by exact News.isList (by k_asm) (by k_mem)) (by first | exact add_one _ _ _ | exact add_two _ _) ?_ (by walk_at "my_size")); intro D'z9 h'z9 F'z9 N'z9 l1z9; (try k_lt l1z9); (try k_sweep)))
  (k_with "~call ref" => (k_here; (with_reducible show wpAny _ _ (call (Value.ref 52) _) _ _ _); ktf_call (c_small _ _ _ _)))
  (k_with "~my_signs" => (law_clear; simp only [s_a, s_z, s_A, s_Z, s_0, s_9, lt1, str1_eq, e_us, e_co, e_mi, e_do, smallB_iff, startB_iff, charB_iff, ← decide_not, decide_eq_decide, decide_eq_true_eq, decide_eq_false_iff_not, decide_eq_true_eq, eq_comm (a := true), Bool.not_eq_true, Bool.not_eq_false] at *; omega))
  (k_with "~call ref" => (k_here; (with_reducible show wpAny _ _ (call (Value.ref 59) _) _ _ _); ktf_call (c_start _ _ _ _ (by assumption))))
  (k_with "~call ref" => (k_here; (with_reducible show wpAny _ _ (call (Value.ref 66) _) _ _ _); ktf_call (c_char _ _ _ _ (by assumption))))
  (k_with "~call ref" => (k_here; (with_reducible show wpAny _ _ (call (Value.ref 73) _) _ _ _); ktf_call (c_nmtoken _ _ _ _ (by assumption))))
  (k_with "~call ref" => (k_here; (with_reducible show wpAny _ _ (call (Value.ref 80) _) _ _ _); ktf_call (c_name _ _ _ _ (by assumption))))
  (k_with "~call ref" => (k_here; (with_reducible show wpAny _ _ (call (Value.ref 121) _) _ _ _); ktf_call (c_blank _ _ _ _ (by assumption))))
  (k_with "~call ref" => (k_here; (with_reducible show wpAny _ _ (call (Value.ref 128) _) _ _ _); ktf_call (c_norm _ _ _ _ _ _ (by assumption))))
  (k_with "~call ref" => (k_here; (with_reducible show wpAny _ _ (call (Value.ref 135) _) _ _ _); ktf_call (c_words _ _ _ _ _ _ (by assumption))))
  (k_with "~call ref" => (k_here; (with_reducible show wpAny _ _ (call (Value.ref 142) _) _ _ _); ktf_call (c_isword _ _ _ _ _ _ (by assumption))))
  (k_with "~call ref" => (k_here; (with_reducible show wpAny _ _ (call (Value.ref 149) _) _ _ _); ktf_call (c_fits _ _ _ _ _ _ _ _ _ _ _ _ _ _ _ _ _ _ _ _ (by assumption) (by assumption) (by k_mem) (by k_mem) (by k_mem) (by assumption))))
  (k_with "~call ref" => (k_here; (with_reducible show wpAny _ _ (call (Value.ref 566) _) _ _ _); ktf_call (c_lawword _ _ _ _ _ (by assumption) (by assumption))))
  (k_with "~call ref" => (k_here; (with_reducible show wpAny _ _ (call (Value.ref 561) _) _ _ _); ktf_call (c_parted _ _ _ _ (by assumption) (by assumption))))
  (k_with "~call builtin:len" => (k_here; (with_reducible show wpAny _ _ (call (Value.builtin _) [Value.ref _]) _ _ _); k_dflt (refine' len_at (by exact News.isList (by k_asm) (by k_mem)) (by first | omega | ((simp only [List.length_cons, List.length_nil, List.length_append, List.length_map, strValues]); omega)) ?_)))
  (k_with "~my_pick" => first | exact Pick.head | (refine' Pick.tail (by walk_at "my_pick")))
  (k_with "~call ref" => (k_here; (with_reducible show wpAny _ _ (call (Value.ref 542) _) _ _ _); ktr_call (c_take _ _ _ _ _ _ (by assumption) (by first | assumption | decide) (by first | assumption | decide) (by walk_at "my_off")) ()))
  (k_with "~call ref" => (k_here; (with_reducible show wpAny _ _ (call (Value.ref 549) _) _ _ _); ktr_call (c_one _ _ _ _ _ _ _ (by assumption) (by k_mem) (by first | assumption | exact Nat.le_of_ble_eq_true rfl) (by first | assumption | exact Nat.le_of_ble_eq_true rfl) (by walk_at "my_off")) ()))
  (k_with "~call ref" => (k_here; (with_reducible show wpAny _ _ (call (Value.ref 554) _) _ _ _); ktr_call (c_value _ _ _ _ (by assumption) (by walk_at "my_off")) ()))
  (k_with "~call ref" => (k_here; (with_reducible show wpAny _ _ (call (Value.ref 571) _) _ _ _); ktf_call (c_kind _ _ _ _ _ _ (by first | assumption | decide +kernel) (by k_asm))))
  (k_with "~my_tree" => first | assumption | (refine TreeIn.mono ?_ (by assumption); walk_at "my_sub"))
  (k_with "~call ref" => (k_here; (with_reducible show wpAny _ _ (call (Value.ref 367) _) _ _ _); ktf_call (c_row _ _ _ _ _ _ (by walk_at "my_tree") (by assumption) (by assumption))))
  (k_with "~call ref" => (k_here; (with_reducible show wpAny _ _ (call (Value.ref 444) _) _ _ _); ktf_call (c_tkind _ _ _ _ _ _ (by walk_at "my_tree") (by assumption) (by assumption))))
  (k_with "~call ref" => (k_here; (with_reducible show wpAny _ _ (call (Value.ref 451) _) _ _ _); ktf_call (c_tname _ _ _ _ _ _ (by walk_at "my_tree") (by assumption) (by assumption))))
  (k_with "~call ref" => (k_here; (with_reducible show wpAny _ _ (call (Value.ref 472) _) _ _ _); ktf_call (c_tvalue _ _ _ _ _ _ (by walk_at "my_tree") (by assumption) (by assumption))))
  (k_with "~call ref" => (k_here; (with_reducible show wpAny _ _ (call (Value.ref 486) _) _ _ _); ktf_call (c_children _ _ _ _ _ _ (by walk_at "my_tree") (by assumption) (by assumption))))
  (k_with "~call ref" => (k_here; (with_reducible show wpAny _ _ (call (Value.ref 493) _) _ _ _); ktf_call (c_attributes _ _ _ _ _ _ (by walk_at "my_tree") (by assumption) (by assumption))))
  (k_with "~call ref" => (k_here; (with_reducible show wpAny _ _ (call (Value.ref 451) _) _ _ _); ktf_call (c_tnameX _ _ _ _ _ _ _ (by walk_at "my_tree") (by assumption) (by assumption) (by first | assumption | exact rfl))))
  (k_with "k_ne" => (refine neN ?_; (try dsimp only); first | assumption | exact Ne.symm (by assumption) | (refine Nat.ne_of_lt ?_; walk_at "my_lt") | (refine Nat.ne_of_gt ?_; walk_at "my_lt") | omega | exact ne_of_mem (by assumption) (by k_mem) | exact Ne.symm (ne_of_mem (by assumption) (by k_mem))))
  (k_with "~exec While Compare cons nil" => (k_here; (rename Fr _ _ _ _ => lF'z9); (with_unfolding_all refine' while_any lF'z9 ?_); walk_say "MY WHILE"))
  (k_with "~my_ints" => first | exact IntsIn.of _ | exact IntsIn.nil | exact IntsIn.snoc _ _ _)
  (k_with "~compareOp Eq ref ref" => (k_here; k_dflt (refine' eq_ints (by k_asm) (by k_mem) (by k_mem) (by walk_at "my_ints") (by walk_at "my_ints") (by k_units) ?_)))
  (k_with "~compareOp NotEq ref ref" => (k_here; k_dflt (refine' ne_ints (by k_asm) (by k_mem) (by k_mem) (by walk_at "my_ints") (by walk_at "my_ints") (by k_units) ?_)))
  (k_with "~my_size" => (simp only [List.size_toArray, strValues, intVals, refVals, List.length_map, Array.length_toList, List.length_append, List.length_reverse, List.length_dropLast, List.length_cons, List.length_nil, sizeLine_eq]; omega))
  (k_with "~call builtin:list.append" => (k_here; (with_reducible show wpAny _ _ (call (Value.builtin _) [Value.ref _, _]) _ _ _); k_dflt (refine' append_my (by k_asm) (by k_asm) (by k_upd) (by walk_at "my_size") ?_); intro h'z9 F'z9 N'z9; (try k_sweep)))
  (k_with "~call builtin:list.pop" => (k_here; (with_reducible show wpAny _ _ (call (Value.builtin _) [Value.ref _]) _ _ _); k_dflt (refine' pop_my (by k_asm) (by k_asm) (by k_upd) (by walk_at "my_size") ?_); intro h'z9 F'z9 N'z9; (try k_sweep)))
  (k_with "~call builtin:list.extend" => (k_here; (with_reducible show wpAny _ _ (call (Value.builtin _) [Value.ref _, Value.ref _]) _ _ _); k_dflt (refine' extend_my (by k_asm) (by k_asm) (by k_mem) (by (intro k8z9; k_upd)) (by walk_at "my_size") ?_); intro k9z9 h'z9 F'z9 N'z9; (try dsimp only at N'z9); (try k_sweep)))
  (k_with "~subscriptTail Name Slice ref ref" => (k_here; (with_reducible show wpAny _ _ (subscriptTail _ (PySem.Expr.Slice none none (some _) _) (Value.ref _) (Value.ref _)) _ _ _); k_dflt (refine' rev_my (by k_asm) (by k_asm) (by exact News.isList (by k_asm) (by k_mem)) (by exact IsPart.int _ _) (by with_unfolding_all rfl) (by kmk_pure) (by walk_at "my_size") ?_); intro D'z9 h'z9 F'z9 N'z9 l1z9; (try k_lt l1z9); (try k_sweep)))
  (k_with "~my_dtd" => first | assumption | (refine DtdIn.mono ?_ (by assumption); walk_at "my_sub"))
  (k_with "~call ref" => (k_here; (with_reducible show wpAny _ _ (call (Value.ref 289) _) _ _ _); ktf_call (c_idname _ _ _ _ (by walk_at "my_dtd"))))
  (k_with "~call ref" => (k_here; (with_reducible show wpAny _ _ (call (Value.ref 277) _) _ _ _); ktf_call (c_rule _ _ _ _ _ _ _ (by walk_at "my_dtd") (by assumption))))
  (k_with "~call ref" => (k_here; (with_reducible show wpAny _ _ (call (Value.ref 156) _) _ _ _); ktf_call (c_walk _ _ _ _ _ _ (by walk_at "my_tree") (by assumption) (by assumption) (by assumption) (by assumption))))
  (k_with "~call ref" => (k_here; (with_reducible show wpAny _ _ (call (Value.ref 170) _) _ _ _); ktf_call (c_idtable _ _ _ _ _ _ (by walk_at "my_tree") (by walk_at "my_dtd") (by assumption) (by assumption))))
  (k_with "~my_tail" => first | assumption | (refine' List.mem_cons_of_mem _ ?_; walk_at "my_tail") | (refine' List.mem_append_left _ ?_; walk_at "my_tail") | (refine' List.mem_append_right _ ?_; walk_at "my_tail"))
  (k_with "k_mem" => first | exact List.mem_cons_self | ktr_member | (refine' List.mem_cons_of_mem _ ?_; k_mem) | (refine' List.mem_append_right _ ?_; k_mem) | (refine' List.mem_append_left _ ?_; k_mem))
  (k_with "~my_sub" => first | exact fun _ hpz9 => hpz9 | exact List.forall_mem_nil _ | (refine' List.forall_mem_cons.mpr ⟨?_, ?_⟩; k_mem; walk_at "my_sub") | (intro pz9 hpz9; walk_at "my_tail") | (refine' List.forall_mem_append.mpr ⟨?_, ?_⟩; walk_at "my_sub"; walk_at "my_sub"))
  (k_with "~call ref" => (k_here; (with_reducible show wpAny _ _ (call (Value.ref 184) _) _ _ _); ktf_call (c_broken _ _ _ _ _ _ (by walk_at "my_tree") (by walk_at "my_dtd") (by assumption) (by assumption))))
  (k_with "~call ref" => (k_here; (with_reducible show wpAny _ _ (call (Value.ref 177) _) _ _ _); ktf_call (c_refs _ _ _ _ _ _ _ _ (by walk_at "my_tree") (by walk_at "my_dtd") (by assumption) (by assumption) (by assumption) (by assumption) (by assumption))))
  (k_with "~call ref" => (k_here; (with_reducible show wpAny _ _ (call (Value.ref 189) _) _ _ _); ktf_call (c_referring _ _ _ _ _ _ _ _ (by walk_at "my_tree") (by walk_at "my_dtd") (by assumption) (by assumption))))
  (k_with "~my_below" => first | assumption | exact ktn_ltOf (by first | assumption | exact And.right (by assumption) | exact And.right (And.right (by assumption)) | exact And.right (And.right (And.right (by assumption))) | exact And.right (And.right (And.right (And.right (by assumption))))))
  (k_with "~exec For Tuple List cons nil" => walk_at "my_for")
  (k_with "k_room" => ktr_room)
  (k_with "~call ref" => (k_here; (with_reducible show wpAny _ _ (call (Value.ref 576) _) _ _ _); refine stopHere ?_))
  (k_with "~call ref" => (k_here; (with_reducible show wpAny _ _ (call (Value.ref 374) _) _ _ _); refine stopHere ?_))
  (k_with "~compareOp NotEq ref ref" => refine stopHere ?_)
  (k_with "~compareOp NotEq" => (k_here; k_dflt (refine' ne_tv (by assumption) (by assumption) ?_)))
  (k_with "~subscriptTail Name Constant ref int" => (k_here; k_dflt (first
    | (refine' item_tupleT (by exact News.isTup (by k_asm) (by k_mem)) (by decide) (by decide) (by rfl) (by rfl) ?_)
    | (refine' item_at (by exact News.isList (by k_asm) (by k_mem)) (by decide) (by decide) (by rfl) ?_)
    | refine stopHere ?_)))
  (k_with "~exec Assign cons IfExp" => ((fail_if_success (with_reducible show wpAny _ _ _ (JoinQ _) _ _)); refine stopHere ?_))
  (k_with "~binaryOp Add ref ref" => (k_here; k_dflt (refine' add_plain (by k_asm) (by k_asm) (by k_mem) (by k_mem) (by assumption) ?_); intro D'z9 h'z9 F'z9 N'z9 l1z9; (try k_lt l1z9); (try k_sweep)))
  (k_with "~call ref" => (k_here; (with_reducible show wpAny _ _ (call (Value.ref 163) _) _ _ _); ktf_call (c_idofT _ _ _ _ _ _ _ _ (by walk_at "my_tree") (by walk_at "my_dtd") (by assumption) (by assumption) (by assumption) (by assumption))))
  (k_with "~compareOp In str ref" => (k_here; k_dflt (refine' in_list_strs (by k_asm) (by k_mem) ?_)))
  (k_with "~getMethod ref" => (k_here; (with_reducible show wpAny _ _ (getMethod (Value.ref _) (PySem.Str.ofString "get") _) _ _ _); k_dflt (refine kdg_method (knd := PySem.strKind _ _) (by k_asm) (by k_mem) (by k_asm) ?_)))
  (k_with "~call builtin:dict.get" => (k_here; k_dflt (first
    | refine kdg_get1 (knd := PySem.strKind _ _) (by k_asm) (by k_mem) (by k_asm) (by k_asm) (strKind_is _ _ _ _) (some _) (by rfl) ?_
    | refine kdg_get1 (knd := PySem.strKind _ _) (by k_asm) (by k_mem) (by k_asm) (by k_asm) (strKind_is _ _ _ _) none (by rfl) ?_); (try dsimp only [Option.getD])))
  (k_with "~compareOp NotIn str ref" => (k_here; k_dflt (refine kdg_notin (knd := PySem.strKind _ _) (by k_asm) (by k_mem) (by k_asm) (by k_asm) (strKind_is _ _ _ _) _ rfl ?_)))
  (k_with "~setItem ref str" => (k_here; k_dflt (refine' kda_set (knd := PySem.strKind _ _) (by k_asm) (by k_asm) (by k_updF) (by k_asm) (strKind_is _ _ _ _) (by first | assumption | (rw [sizeLine_eq]; simp; done)) ?_); intro h'z9 o'z9 F'z9 N'z9 hd'z9; (try dsimp only at N'z9)))
  trivial
set_option maxHeartbeats 8000000 in
theorem c_right (w : World) (src : Addr) (o : Obj) (rest : Led) (ho : SrcO o) (hf : ∀ p ∈ rest, p.1 ≠ src) : Con w 16 581 [.ref src] ((src, o) :: rest) (fun news' r => ∃ n, news' = n ∧ r = .bool true) := by
  unfold Con; k_fill; intro loose mean mg mb dp un gd cn cs a ccd cl outer A₀ base h₀ L m s Q E B F X N Tp hk hdp hun hret; walk_at "my_enterC"
  rename _ ∧ AllLt _ rest => hl1
  obtain ⟨L9, hL, e9⟩ : ∃ z, src < z ∧ z = _ := ⟨_, hl1.1, rfl⟩
  subst e9
  k_steps
  (try walk_at "my_fold")
  rename News _ _ _ _ => N1
  obtain ⟨lx, e9⟩ := head_name N1
  subst e9
  obtain ⟨oc1, oc2, oa0, e7, e8, e9⟩ := cell_names N1
  subst e7 e8 e9
  obtain ⟨nb, its, D, T, N2, hrb, hits, hdd, hx1, hx2, hx3, hsix⟩ := right_base N1 (by omega) (by omega) (by omega) (by omega) (by omega) (by omega) (by omega) (by omega) (by omega) (by omega) (by omega) (by omega)
  rename Obj.IsDictOf (PySem.strKind _ _) oa0 [] => hq0
  rename Fr _ _ _ _ => F1
  refine my_op F1 fun m1 F2 hm => ?_
  have e1 : m1 (Str.ofString "tree") = some (.ref T.t) := (hm _).trans (by rw [hx2]; rfl)
  have e2 : m1 (Str.ofString "dtd") = some (.ref D.o) := (hm _).trans (by rw [hx1]; rfl)
  have e3 : m1 (Str.ofString "source") = some (.ref src) := (hm _).trans rfl
  have hlo : (D.ad == sysModules) = false := by rw [hx3]; assumption
  clear hm F1 N1 hits hx1 hx2 hx3
  repeat (rename PyProof.V.FlatPairs _ _ _ => hz9; clear hz9)
  clear hl1
  repeat (rename @LT.lt Addr _ _ _ ∧ _ => hz9; clear hz9)
  obtain ⟨bs, hbs⟩ : ∃ b, b = out6 src (L9 + 1) (L9 + 1 + 1) T.rl T.t T.td o oc1 oc2 (listOf #[] 0) (instObj 524 T.td) (dictOf [⟨T.h, .str (Str.ofString "rows") T.tk, .ref T.rl⟩] T.n) ++ nb := ⟨_, rfl⟩
  rw [← hbs] at N2
  have hnb : ∀ p ∈ nb, p ∈ bs := fun p hp => hbs ▸ List.mem_append_right _ hp
  have g1 := hnb _ hrb.inst
  have g2 := hnb _ hdd
  have hadn : ∀ p ∈ bs, p.1 ≠ D.ad := fun p hp => hrb.ad p (hbs ▸ hp)
  have hlx : (lx, listOf its 0) ∈ bs := hnb _ hrb.lst
  refine iter_list (fun m₀ n₀ i K => ∀ m₁ R, m₁ (Str.ofString "tree") = some (.ref T.t) → m₁ (Str.ofString "dtd") = some (.ref D.o) → m₁ (Str.ofString "source") = some (.ref src) → DS w D.ad bs i R → K m₁ R)
    rfl (by k_asm) N2 (.inr ⟨_, List.mem_cons_of_mem _ hlx, rfl, _, rfl⟩) (fun K k => k _ _ (by exact e1) (by exact e2) (by exact e3) (DS.zero oa0 hq0)) ?_ ?_
  · intro I i v hv
    intro m₁ R e1 e2 e3 hDS oI h tk S off F₁ N₁
    (try walk_at "my_fold")
    obtain ⟨tp, nm, kd, t1, u1, n1, rfl, hnm, hkd, htp⟩ := hrb.tup i v hv
    have htp' := hnb _ htp
    cases hDS with
    | zero oa h1 =>
      have off' : ∀ p ∈ bs, p.1 ≠ I := fun p hp => off p (List.mem_cons_of_mem _ hp)
      have hIa : @Ne Nat I D.ad := fun e => off _ List.mem_cons_self e.symm
      k_steps
      · exact Bool.noConfusion (show false = true from by assumption)
      · rename News _ L9 _ _ => NE
        obtain ⟨nw, c1, c2, c3⟩ := ds_first NE (by first | walk_at "my_below" | exact ktn_ltOf (by first | exact And.right (And.right (by assumption)) | exact And.right (And.right (And.right (by assumption)))))  (by omega) (by omega) (by omega) (by omega) (by omega) (by assumption) (by assumption) (by assumption) hnm hkd
        exact TE.intro (by k_asm) c1 (fun _ hp => hp) (List.forall_mem_cons.mpr ⟨Ne.symm hIa, List.forall_mem_cons.mpr ⟨c3 _ List.mem_cons_self, List.forall_mem_append.mpr ⟨fun p hp => c3 p (List.mem_cons_of_mem _ hp), off'⟩⟩⟩) (.inr ⟨_, List.mem_cons_of_mem _ (List.mem_cons_of_mem _ (List.mem_append_right _ hlx)), rfl, _, rfl⟩) (fun K k => k _ _ (by exact e1) (by exact e2) (by exact e3) c2)
    | succ i oa ob rd nw rs h1 h2 h3 h4 h5 h6 h7 h8 =>
      have hno := ns_new h4 hnm
      have hnb2 : ∀ p ∈ bs, p ∈ nw ++ bs := fun p hp => List.mem_append_right _ hp
      have g1' := hnb2 _ g1
      have g2' := hnb2 _ g2
      have htp2 := hnb2 _ htp'
      obtain ⟨R, hRR⟩ : ∃ R, R = nw ++ bs := ⟨_, rfl⟩
      rw [← hRR] at N₁ off g1' g2' htp2
      have hRad : ∀ p ∈ R, p.1 ≠ D.ad := by rw [hRR]; exact List.forall_mem_append.mpr ⟨fun p hp => (h7 p hp).1, hadn⟩
      have hRrd : ∀ p ∈ R, p.1 ≠ rd := by rw [hRR]; exact List.forall_mem_append.mpr ⟨fun p hp => (h7 p hp).2, fun p hp => h6 _ List.mem_cons_self p hp⟩
      have offR : ∀ p ∈ R, p.1 ≠ I := fun p hp => off p (List.mem_cons_of_mem _ (List.mem_cons_of_mem _ hp))
      have hIa : @Ne Nat I D.ad := fun e => off _ List.mem_cons_self e.symm
      have hIr : @Ne Nat I rd := fun e => off _ (List.mem_cons_of_mem _ List.mem_cons_self) e.symm
      have hsz : (rs.map fun p => (p.1, Value.ref p.2)).length ≤ sizeLine := by
        have := congrArg List.length h4
        rw [List.length_map, List.length_take] at this
        rw [List.length_map, sizeLine_eq]; have : ns3.length = 3 := rfl; omega
      k_steps
      · rename (Option.isSome _) = true => hq9
        rw [hno] at hq9
        cases hq9
      · rename News _ L9 _ _ => NE
        subst hRR
        obtain ⟨nw', c1, c2, c3⟩ := ds_next NE (by first | walk_at "my_below" | exact ktn_ltOf (by first | exact And.right (And.right (And.right (by assumption))) | exact And.right (And.right (And.right (And.right (by assumption)))))) (by omega) (by omega) (by omega) (by omega) (by omega) h1 (by assumption) h3 h4 h5 h6 h7 h8 hno hnm hkd offR hIr hIa
        exact TE.intro (by k_asm) c1 (fun _ hp => hp) c3 (.inr ⟨_, List.mem_cons_of_mem _ (List.mem_cons_of_mem _ (List.mem_append_right _ hlx)), rfl, _, rfl⟩) (fun K k => k _ _ (by exact e1) (by exact e2) (by exact e3) c2)
  · intro m₁ R e1 e2 e3 hDS h tk F₁ N₁
    rw [hrb.size] at hDS
    dsimp only
    (try walk_at "my_fold")
    obtain ⟨D2, nw, hDo, hRR, hD2, hfr⟩ := ds_done hDS hadn hlo hrb.inst hdd
    subst hRR hbs
    obtain ⟨N4, hR4, hB4⟩ := right_mid N₁ hsix hrb.six hfr
    rename oc1.data = _ => hc1
    rename oc2.data = _ => hc2
    clear N₁ hDS hfr hadn g1 g2 hlx hnb N2 F2 hq0 hdd hrb
    have hT1 : (T.t, instObj 524 T.td) ∈ (src, o) :: (L9 + 1, oc1) :: (L9 + 1 + 1, oc2) :: (T.t, instObj 524 T.td) :: (T.td, dictOf [⟨T.h, .str (Str.ofString "rows") T.tk, .ref T.rl⟩] T.n) :: (nw ++ nb) := by k_mem
    have hT2 : (T.td, dictOf [⟨T.h, .str (Str.ofString "rows") T.tk, .ref T.rl⟩] T.n) ∈ (src, o) :: (L9 + 1, oc1) :: (L9 + 1 + 1, oc2) :: (T.t, instObj 524 T.td) :: (T.td, dictOf [⟨T.h, .str (Str.ofString "rows") T.tk, .ref T.rl⟩] T.n) :: (nw ++ nb) := by k_mem
    k_steps
    unfold StopHere
    ktf_call (c_newroot w T.t T.td T.rl _ _ _ _ _ hT1 hT2 hR4)
    (try walk_at "my_fold")
    rename NodeIn _ _ ∧ _ => hf
    rename News _ _ _ _ => N5
    obtain ⟨tl, T1, N6, hTt, hTr, hTs, hTv, hap, hsn, hst⟩ := right_mid2 hsix N5 hf hB4
    rw [← hTt] at e1
    rw [← hDo] at e2
    clear N5 hf hB4 hT1 hT2 hR4 hsix
    k_steps
    unfold StopHere
    ktf_call (c_grown w src o T1 _ _ tl ho hTr hTs hTv hap hsn hst)
    (try walk_at "my_fold")
    rename News _ _ _ _ => N7
    obtain ⟨ra, kr, e9, e8⟩ := list_name N7
    subst e9 e8
    rename List Value => vs
    rename ∃ (_ : TreeS), _ => hg
    refine Exists.elim hg fun T2 hg => Exists.elim hg fun es hg => Exists.elim hg fun us hg => ?_
    have hT9 := hg.1
    have hTt2 := hg.2.1
    have hz2 := hg.2.2.2.2.1
    have hrows9 := hg.2.2.2.2.2.1
    have hsub9 := hg.2.2.2.2.2.2
    have hels := hg.2.2.1.elsOk (by have := hg.2.2.2.1; omega)
    have hes6 : es.length ≤ 6 := by have h1 := congrArg List.length hg.2.2.1.ids; have h2 := hg.2.2.2.1; simp only [List.length_map] at h1; omega
    refine Exists.elim (right_split N7 (hsub9 _ List.mem_cons_self) (hsub9 _ (.tail _ (.head _))) hc1 hc2 hT9 (hD2.mono fun p hp => hsub9 p (.tail _ (.tail _ hp))) hrows9) fun R hR => ?_
    have N8 := hR.1
    have R1 := hR.2.1
    have R2 := hR.2.2.1
    have hra := hR.2.2.2.1
    have hT2 := hR.2.2.2.2.1
    have hD9 := hR.2.2.2.2.2.1
    have hrows := hR.2.2.2.2.2.2
    rename Fr _ _ _ _ => F9
    refine my_op F9 fun m3 F3 hm3 => ?_
    have f1 : m3 (Str.ofString "tree") = some (.ref T2.t) := (hm3 _).trans (by rw [hTt2]; exact e1)
    have f2 : m3 (Str.ofString "dtd") = some (.ref D2.o) := (hm3 _).trans (by exact e2)
    have f3 : ∃ t, m3 (Str.ofString "root") = some (.int (((0 : Nat) : Nat) : Int) t) := ⟨_, (hm3 _).trans rfl⟩
    clear hR hg N7 hT9 hrows9 hsub9 hm3 F9 hD2 hap hsn hst hTr hTs hTv e1 e2 e3
    refine Exists.elim f3 fun t3 f3 => ?_
    have hels' := hels
    obtain ⟨he, ⟨nd0, hn0, hwk⟩, hel⟩ := hels'
    have hol : (es.map (·.id)).length ≤ 100 := by rw [List.length_map]; omega
    have hvl := rows_len hrows
    k_steps
    (try walk_at "my_fold")
    rename List.map _ _ = List.map _ es => hlw
    rename List (Nat × Tok) => lw
    rename News _ _ _ _ => N9
    obtain ⟨wa, kw, e9, e8⟩ := list_name N9
    subst e9 e8
    refine comp_listK (rest := (wa, listOf (intVals lw).toArray kw) :: (L9 + 1, oc1) :: (L9 + 1 + 1, oc2) :: R) (fun n₀ j K => ∀ l, l.map (·.1) = (es.take j).map (·.id) → K (intVals l) n₀) rfl (by k_asm) (by k_asm) (by k_mem) (by walk_at "my_sub") (by omega) rfl rfl (fun K k => by exact k [] rfl) ?_ ?_
    · intro j v g hv9
      refine Exists.elim (rows_of hrows hv9) fun e hv8 => Exists.elim hv8 fun rt hv8 => Exists.elim hv8 fun t9 hv8 => Exists.elim hv8 fun ov hv8 => Exists.elim hv8 fun pv hv8 => Exists.elim hv8 fun n9 hv8 => ?_
      have hje := hv8.1
      have hve := hv8.2.1
      have htu := hv8.2.2.1
      clear hv8
      subst hve
      intro I l hl oI3 C oC D3 h3 tk3 m₂ E' S9 hoC hB F₃ N₃ o3 ne
      dsimp only [BndN] at hB
      dsimp only [TestElt]
      k_steps
      exact LCg.CompEnd.intro (by k_asm) (by k_asm) _ (by walk_at "my_sub") o3 S9 (fun K k => by rw [show intVals l ++ [.int ((e.id : Nat) : Int) t9] = intVals (l ++ [(e.id, t9)]) from (intVals_snoc l (e.id, t9)).symm]; exact k _ (by rw [take_one hje, List.map_append, List.map_append, hl]; rfl))
    · intro g l hl D3 h3 tk3 F₃ N₃ o3
      rw [hvl, List.take_length] at hl
      k_steps
      unfold StopHere
      refine ne_ints0 (by k_asm) (by k_mem) (by k_mem) hlw hl (by ktr_units) ?_
      rename News _ _ _ _ => N5
      have N6 := cb_drop (news := (L9 + 1, oc1) :: (L9 + 1 + 1, oc2) :: R) N5 (by walk_at "my_sub")
      clear N5
      k_steps
      (try walk_at "my_fold")
      rename News _ _ _ _ => N5
      obtain ⟨ev, td, od, oc3, e6, e7, e8, e9⟩ := loop_names N5
      subst e6 e7 e8 e9
      rename oc3.data = _ => hc3
      rename Obj.IsDictOf (PySem.strKind _ _) od [] => hd3
      rename (td == sysModules) = false => hlo3
      have hct : @Ne Nat (L9 + 1) td := by k_ne
      have hc2t : @Ne Nat (L9 + 1 + 1) td := by k_ne
      have hRt : ∀ p ∈ R, p.1 ≠ td := by walk_at "my_fresh"
      have het : @Ne Nat ev td := by k_ne
      rename Fr _ _ _ _ => F5
      refine my_op F5 fun m4 F4 hm4 => ?_
      have N4 := cb_drop (news := (ev, listOf ([] : List Value).toArray 0) :: (td, od) :: (L9 + 1, oc3) :: (L9 + 1 + 1, oc2) :: R) N5 (by walk_at "my_sub")
      have hLI : LI w T2.t D2.o ra R es 0 m4 od [] ev [] := ⟨(hm4 _).trans (by exact f1), (hm4 _).trans (by exact f2), ⟨_, (hm4 _).trans (by exact f3)⟩, (hm4 _).trans (by rfl), (hm4 _).trans (by rfl), hd3, rfl, .nil⟩
      clear N5 F5 hm4 hd3 f1 f2 f3
      refine iter_list (fun m₀ n₀ i K => ∀ m₁ od lt ev ke evs, LI w T2.t D2.o ra R es i m₁ od lt ev evs → @Ne Nat ev td → K m₁ ((ev, listOf evs.toArray ke) :: (td, od) :: (L9 + 1, oc3) :: (L9 + 1 + 1, oc2) :: R))
        rfl (by k_asm) N4 (.inr ⟨_, by k_mem, rfl, _, rfl⟩) (fun K k => k _ _ [] _ _ [] hLI het) ?_ ?_
      · intro I i v hv
        intro m₁ od lt ev ke evs hL het oI h tk S off F₁ N₁
        (try walk_at "my_fold")
        refine Exists.elim (rows_of hrows (by simpa using hv)) fun e hv8 => Exists.elim hv8 fun rt hv8 => Exists.elim hv8 fun t9 hv8 => Exists.elim hv8 fun ov hv8 => Exists.elim hv8 fun pv hv8 => Exists.elim hv8 fun n9 hv8 => ?_
        have hje := hv8.1
        have hve := hv8.2.1
        have htu := hv8.2.2.1
        have hown8 := hv8.2.2.2.1
        refine Exists.elim (list_of hv8.2.2.2.2) fun pa hp8 => Exists.elim hp8 fun pvs hp8 => Exists.elim hp8 fun kp hp8 => ?_
        have hpv := hp8.1
        have hpm := hp8.2.1
        have hpd := hp8.2.2
        clear hv8 hp8 hLI N4 F4
        subst hve hpv
        refine Exists.elim (he e (List.mem_of_getElem? hje)) fun nd hnd => ?_
        have hn1 := hnd.1
        have hn2 := hnd.2.1
        have hn3 := hnd.2.2.1
        have hn4 := hnd.2.2.2
        have hown := own_of (vals_ok hz2 hn3) hown8
        clear hnd hown8
        have f1 := hL.l1
        have f2 := hL.l2
        have f5 := hL.l5
        have hd4 := hL.d
        have hIc : @Ne Nat I (L9 + 1) := fun e => off _ (.tail _ (.tail _ (.head _))) e.symm
        have hIt : @Ne Nat I td := fun e => off _ (.tail _ (.head _)) e.symm
        k_steps
        refine join_name (Str.ofString "told") (fun u n => ∃ v, TV e.ats v ∧ u = some v ∧ n = (I, oI) :: (ev, listOf evs.toArray ke) :: (td, od) :: (L9 + 1, oc3) :: (L9 + 1 + 1, oc2) :: R) (by k_asm) ?_ ?_
        · rcases hown with ⟨rfl, htold⟩ | ⟨oa, x, t8, n8, rfl, hoa, htold⟩ | ⟨oa, ws, n8, rfl, hoa, hw1, hw2, htold⟩
          · k_steps
            exact NameQ.intro (by k_asm) (by k_asm) (by walk_at "my_sub") rfl ⟨_, .inl ⟨htold, rfl⟩, rfl, rfl⟩
          · k_steps
            · exact NameQ.intro (by k_asm) (by k_asm) (by walk_at "my_sub") rfl ⟨_, .inr ⟨_, _, htold, rfl⟩, rfl, rfl⟩
            · rename _ ≠ (1 : Int) => hq9
              exact absurd rfl hq9
          · k_steps
            · omega
            · exact NameQ.intro (by k_asm) (by k_asm) (by walk_at "my_sub") rfl ⟨_, .inl ⟨htold, rfl⟩, rfl, rfl⟩
        clear hown
        rintro u h6 tk6 n6 F6 N6 ⟨told, htv, rfl, rfl⟩
        k_steps
        unfold StopHere
        rename DatAll _ _ _ ∧ _ => hf9
        have hf1 := hf9.1
        have hf2 := hf9.2.1
        have hf4 := hf9.2.2.2
        clear hf9
        refine ne_pairs (by k_asm) (by k_mem) (by k_mem) (DatAll.mono (by walk_at "my_sub") hf1) (DatAll.mono (by walk_at "my_sub") hpd) (by ktr_units) (by ktr_units) ?_
        have hevl := hL.e.length
        have hpvl := hpd.length
        rename News _ _ _ _ => N5
        have N6 := cb_drop (news := (I, oI) :: (ev, listOf evs.toArray ke) :: (td, od) :: (L9 + 1, oc3) :: (L9 + 1 + 1, oc2) :: R) N5 (by walk_at "my_sub")
        clear N5
        have hadd := every_add hz2 he hes6 hje hevl hpvl
        have hdat : DatAll R (evs ++ pvs) (pd (everyP (es.take (i + 1)))) := by rw [take_one hje, everyP_snoc, pd_append]; exact hL.e.append hpd
        have hta := hL.t
        have f3 := hL.l3
        have f4 := hL.l4
        have hoff := List.forall_mem_cons.mp off
        rcases htv with ⟨htold, rfl⟩ | ⟨x, t8, htold, rfl⟩
        · have hst : tabP (es.take (i + 1)) = tabP (es.take i) := by rw [take_one hje, tabP_snoc, tabStep, htold]
          k_steps
          rename Fr _ _ _ _ => F8
          exact TE.intro F8 (by k_asm) (by walk_at "my_sub") (List.forall_mem_cons.mpr ⟨by k_ne, hoff.2⟩) (.inr ⟨_, by k_mem, rfl, _, rfl⟩) (fun K k => k _ od lt _ _ _ ⟨by exact f1, by exact f2, by exact f3, by exact f4, by rfl, hd4, hta.trans hst.symm, hdat⟩ (by k_ne))
        · have hsz : (tabV lt).length ≤ sizeLine := tab_small hta hes6
          have hst : tabP (es.take (i + 1)) = if (valueAt (tabV lt) x).isSome = true then tabP (es.take i) else tabP (es.take i) ++ [(x, e.id)] := by rw [take_one hje, tabP_snoc, tabStep, htold, tabV_at, hta]
          k_steps
          · rename (Option.isSome _) = true => hq9
            rw [hq9, if_pos rfl] at hst
            rename Fr _ _ _ _ => F8
            exact TE.intro F8 (by k_asm) (by walk_at "my_sub") (List.forall_mem_cons.mpr ⟨by k_ne, hoff.2⟩) (.inr ⟨_, by k_mem, rfl, _, rfl⟩) (fun K k => k _ od lt _ _ _ ⟨by exact f1, by exact f2, by exact f3, by exact f4, by rfl, hd4, hta.trans hst.symm, hdat⟩ (by k_ne))
          · rename (Option.isSome _) = false => hq9
            rw [hq9, if_neg (by simp)] at hst
            rename Obj.IsDictOf _ _ (stored _ _ _) => hd8
            rw [stored_absent (by simpa using hq9), ← tabV_snoc] at hd8
            rename Obj => o8
            rename Fr _ _ _ _ => F8
            exact TE.intro F8 (by k_asm) (by walk_at "my_sub") (List.forall_mem_cons.mpr ⟨by k_ne, List.forall_mem_cons.mpr ⟨Ne.symm hIt, (List.forall_mem_cons.mp hoff.2).2⟩⟩) (.inr ⟨_, by k_mem, rfl, _, rfl⟩) (fun K k => k _ o8 (lt ++ [(x, e.id, t9)]) _ _ _ ⟨by exact f1, by exact f2, by exact f3, by exact f4, by rfl, hd8, by rw [hst, List.map_append, hta]; rfl, hdat⟩ (by k_ne))
      · intro m₁ od lt ev ke evs hL het h tk F₁ N₁
        rw [List.size_toArray, hvl] at hL
        have f1 := hL.l1
        have f2 := hL.l2
        have f5 := hL.l5
        have hd4 := hL.d
        have hta := hL.t
        have hev := hL.e
        rw [List.take_length] at hta hev
        have hevl := every_le hz2 he hes6 hev
        dsimp only
        (try walk_at "my_fold")
        refine Exists.elim hL.l3 fun t3 f3 => ?_
        clear hLI N4 F4
        k_steps
        unfold StopHere
        rename Obj.IsDictOf _ _ _ ∧ _ => hk9
        have hk1 := hk9.1
        have hk2 := hk9.2.1
        have hk3 := hk9.2.2.1
        clear hk9
        refine ne_tabs (by k_asm) (by k_mem) (by k_mem) hk3 hlo3 hk1 hd4 (hk2.trans hta.symm) (by ktr_units) ?_
        rename News _ _ _ _ => N5
        have N6 := cb_drop (news := (ev, listOf evs.toArray ke) :: (td, od) :: (L9 + 1, oc3) :: (L9 + 1 + 1, oc2) :: R) N5 (by walk_at "my_sub")
        clear N5 hk1 hk2 hk3
        k_steps
        (try walk_at "my_fold")
        rename DatAll _ _ _ ∧ _ => hf9
        have hb1 := hf9.1
        clear hf9
        rename List Value => bvs
        rename News _ _ _ _ => N5
        obtain ⟨ba, kb, e9, e8⟩ := list_name N5
        subst e9 e8
        refine comp_list (fun n₀ j K => ∀ ys, DatAll R ys (pd (((everyP es).take j).filter (brkB es))) → K ys n₀) rfl (by k_asm) N5 (.inr ⟨_, by k_mem, rfl, _, rfl⟩) (by rw [List.size_toArray, sizeLine_eq]; omega) rfl rfl (fun K k => by exact k [] .nil) ?_ ?_
        · intro j v g hv9
          refine Exists.elim (pd_at hev (by simpa using hv9)) fun q hv8 => Exists.elim hv8 fun tp hv8 => Exists.elim hv8 fun t8 hv8 => Exists.elim hv8 fun u8 hv8 => Exists.elim hv8 fun n8 hv8 => ?_
          have hq9 := hv8.1
          have hve := hv8.2.1
          have htu := hv8.2.2
          clear hv8 hv9
          subst hve
          intro I ys hys oI3 C oC D3 h3 tk3 m₂ E' S9 hoC hB F₃ N₃ o3 ne
          dsimp only [BndN] at hB
          have hbk : brkB es q = !(valueAt (tabV lt) q.2).isSome := by unfold brkB; rw [tabV_at, hta]
          have hst : ((everyP es).take (j + 1)).filter (brkB es) = ((everyP es).take j).filter (brkB es) ++ [q].filter (brkB es) := by rw [take_one hq9, List.filter_append]
          dsimp only [TestElt]
          k_steps
          · rename (Option.isSome _) = true => hq8
            exact LCg.CompEnd.intro (by k_asm) (by k_asm) _ (by walk_at "my_sub") o3 S9 (fun K k => k ys (by rw [hst, List.filter_cons, hbk, hq8]; simpa using hys))
          · rename (Option.isSome _) = false => hq8
            exact LCg.CompEnd.intro (by k_asm) (by k_asm) _ (by walk_at "my_sub") o3 S9 (fun K k => k _ (by rw [hst, List.filter_cons, hbk, hq8]; exact DatAll.snocD hys htu))
        · intro g ys hys D3 h3 tk3 F₃ N₃ o3
          have hsz : evs.toArray.size = (everyP es).length := by have := hev.length; simp only [pd, List.length_map] at this; rw [List.size_toArray, this]
          rw [hsz, List.take_length] at hys
          k_steps
          unfold StopHere
          refine ne_pairs (by k_asm) (by k_mem) (by k_mem) (DatAll.mono (by walk_at "my_sub") hb1) (DatAll.mono (by walk_at "my_sub") hys) (by ktr_units) (by ktr_units) ?_
          rename News _ _ _ _ => N5
          have N6 := cb_drop (news := (ev, listOf evs.toArray ke) :: (td, od) :: (L9 + 1, oc3) :: (L9 + 1 + 1, oc2) :: R) N5 (by walk_at "my_sub")
          clear N5 hb1 hys
          k_steps
          refine comp_list (fun n₀ j K => ∀ ws, ws.map (·.1) = ((everyP es).take j).map (·.2) → K (strValues ws) n₀) rfl (by k_asm) N6 (.inr ⟨_, by k_mem, rfl, _, rfl⟩) (by rw [List.size_toArray, sizeLine_eq]; omega) rfl rfl (fun K k => by exact k [] rfl) ?_ ?_
          · intro j v g hv9
            refine Exists.elim (pd_at hev (by simpa using hv9)) fun q hv8 => Exists.elim hv8 fun tp hv8 => Exists.elim hv8 fun t8 hv8 => Exists.elim hv8 fun u8 hv8 => Exists.elim hv8 fun n8 hv8 => ?_
            have hq9 := hv8.1
            have hve := hv8.2.1
            have htu := hv8.2.2
            clear hv8 hv9
            subst hve
            intro I ws hws oI3 C oC D3 h3 tk3 m₂ E' S9 hoC hB F₃ N₃ o3 ne
            dsimp only [BndN] at hB
            dsimp only [TestElt]
            k_steps
            exact LCg.CompEnd.intro (by k_asm) (by k_asm) _ (by walk_at "my_sub") o3 S9 (fun K k => by rw [show strValues ws ++ [.str q.2 u8] = strValues (ws ++ [(q.2, u8)]) from by simp [strValues]]; exact k _ (by rw [take_one hq9, List.map_append, List.map_append, hws]; rfl))
          · intro g ws hws D4 h4 tk4 F₄ N₄ o4
            rw [hsz, List.take_length] at hws
            have hwl : (strValues ws).length + 3 ≤ 1000000 := by
              have h1 := congrArg List.length hws
              have h2 := hev.length
              simp only [pd, List.length_map] at h1 h2
              rw [strValues_len]; omega
            k_steps
            change (_ : Value → Shared → Prop) _ _
            k_steps
            (try walk_at "my_fold")
            rename News _ _ _ _ => N5
            refine Exists.elim (three_name N5) fun wl hw3 => Exists.elim hw3 fun w3 hw3 => ?_
            have e9 := hw3.1
            subst e9
            have N4 := cb_drop (news := (L9 + 1 + 1, oc2) :: (wl, listOf (strValues w3).toArray _) :: R) hw3.2 (by walk_at "my_sub")
            have hw2 : @Ne Nat wl (L9 + 1 + 1) := by k_ne
            have f4 := hL.l4
            clear hw3
            refine Exists.elim (rows_vals hrows) fun vals hvals => ?_
            refine iter_list (fun m₀ n₀ i K => ∀ m₁ oc, m₁ (Str.ofString "tree") = some (.ref T2.t) → m₁ (Str.ofString "dtd") = some (.ref D2.o) → (∃ t, m₁ (Str.ofString "root") = some (.int (((0 : Nat) : Nat) : Int) t)) → m₁ (Str.ofString "rows") = some (.ref ra) → (∃ v, oc.data = .cell v) → K m₁ ((L9 + 1 + 1, oc) :: (wl, listOf (strValues w3).toArray _) :: R))
              rfl (by k_asm) N4 (.inr ⟨_, by k_mem, rfl, _, rfl⟩) (fun K k => k _ oc2 (by exact f1) (by exact f2) ⟨_, by exact f3⟩ (by exact f4) ⟨_, hc2⟩) ?_ ?_
            · intro I i v hv
              intro m₁ oc f1 f2 f3' f4 hoc oI h tk S off F₁ N₁
              (try walk_at "my_fold")
              refine Exists.elim (strAt hv) fun x hx => ?_
              have hve := hx.2
              subst hve
              refine Exists.elim f3' fun t3 f3 => Exists.elim hoc fun v5 hc5 => ?_
              have hI2 : @Ne Nat I (L9 + 1 + 1) := fun e => off _ (.head _) e.symm
              clear N4 hc2 hv hx
              k_steps
              (try walk_at "my_fold")
              rename List.map _ _ = referP _ _ => hlr
              rename List (Nat × Tok) => lr
              rename Obj.data _ = Data.cell (some (Value.str x.1 x.2)) => hc6
              rename News _ _ _ _ => N7
              obtain ⟨fa, ka, e9, e8⟩ := list_name N7
              subst e9 e8
              refine comp_tups (xs := [(Str.ofString "node", _), (Str.ofString "own", _), (Str.ofString "pairs", _)]) (vals := vals) (tl := R) (fun n₀ j K => ∀ l, l.map (·.1) = referP (es.take j) x.1 → K (intVals l) n₀) rfl (by k_asm) N7 (.inr ⟨_, by k_mem, rfl, _, rfl⟩) (by walk_at "my_sub")
                (fun i v hv => by obtain ⟨e, t, ov, pa, pvs, n, h1, h2, h3, h4, rt, m, h5, h6⟩ := hvals i v (by simpa using hv); exact ⟨rt, m, h5, h6⟩) (fun i v hv => by obtain ⟨e, t, ov, pa, pvs, n, h1, h2, _⟩ := hvals i v (by simpa using hv); rw [h2]; rfl)
                (by rw [List.size_toArray, sizeLine_eq]; omega) (List.forall_mem_cons.mpr ⟨rfl, List.forall_mem_cons.mpr ⟨rfl, List.forall_mem_cons.mpr ⟨rfl, List.forall_mem_nil _⟩⟩⟩) rfl (fun K k => by exact k [] rfl) ?_ ?_
              · intro j v g hv9
                refine Exists.elim (hvals j v (by simpa using hv9)) fun e hv8 => Exists.elim hv8 fun t9 hv8 => Exists.elim hv8 fun ov hv8 => Exists.elim hv8 fun pa hv8 => Exists.elim hv8 fun pvs hv8 => Exists.elim hv8 fun n9 hv8 => ?_
                have hje := hv8.1
                have hve := hv8.2.1
                have hpm := hv8.2.2.1
                have hpd := hv8.2.2.2.1
                clear hv8 hv9
                refine Exists.elim (he e (List.mem_of_getElem? hje)) fun nd hnd => ?_
                have hpl := pairsP_len (vals_ok hz2 hnd.2.2.1)
                have hatl : e.ats.length ≤ 100 := by have h1 := congrArg List.length hnd.2.2.1.1; simp only [List.length_map] at h1; have := (hz2.2 nd (List.mem_of_getElem? hnd.1)).2.1; omega
                have hpvl : pvs.length = (pairsP e.ats).length := by have := hpd.length; simpa [pd] using this
                clear hnd
                intro I3 l hl oI3 C oC D3 h3 tk3 m₂ E' S9' hoC hB F₃ N₃ o3 ne
                obtain ⟨m', hB⟩ := hB
                rw [hve] at hB
                have hB1 : m₂ (Str.ofString "node") = some (.int ((e.id : Nat) : Int) t9) := by rw [hB]; exact rfl
                have hB3 : m₂ (Str.ofString "pairs") = some (.ref pa) := by rw [hB]; exact rfl
                clear hB
                dsimp only [TestElt]
                k_steps
                refine comp_list (fun n₀ k K => ∀ us, us.map (·.1) = ((pairsP e.ats).take k).map (·.2) → K (strValues us) n₀) rfl (by k_asm) (by k_asm) (.inr ⟨_, by k_mem, rfl, _, rfl⟩) (by rw [List.size_toArray, sizeLine_eq]; omega) rfl rfl (fun K k => by exact k [] rfl) ?_ ?_
                · intro k v2 g2 hv7
                  refine Exists.elim (pd_at hpd (by simpa using hv7)) fun q hv8 => Exists.elim hv8 fun tp hv8 => Exists.elim hv8 fun t8 hv8 => Exists.elim hv8 fun u8 hv8 => Exists.elim hv8 fun n8 hv8 => ?_
                  have hq9 := hv8.1
                  have hve2 := hv8.2.1
                  have htu := hv8.2.2
                  clear hv8 hv7
                  subst hve2
                  intro I4 us hus oI4 C4 oC4 D5 h5 tk5 m₃ E5 S5 hoC5 hB F₅ N₅ o5 ne5
                  dsimp only [BndN] at hB
                  dsimp only [TestElt]
                  k_steps
                  exact LCg.CompEnd.intro (by k_asm) (by k_asm) _ (by walk_at "my_sub") o5 S5 (fun K k => by rw [show strValues us ++ [.str q.2 u8] = strValues (us ++ [(q.2, u8)]) from by simp [strValues]]; exact k _ (by rw [take_one hq9, List.map_append, List.map_append, hus]; rfl))
                · intro g2 us hus D5 h5 tk5 F₅ N₅ o5
                  rw [List.size_toArray, hpvl, List.take_length] at hus
                  have hrb := refB_any (x := x.1) hus
                  have hst : referP (es.take (j + 1)) x.1 = referP (es.take j) x.1 ++ if refB x.1 e = true then [e.id] else [] := by rw [take_one hje, referP_snoc]
                  k_steps
                  · rename List.any _ _ = true => hq8
                    rw [← hrb, hq8, if_pos rfl, ← hl] at hst
                    exact LCg.CompEnd.intro (by k_asm) (by k_asm) _ (by walk_at "my_sub") o3 S9' (fun K k => by rw [show intVals l ++ [.int ((e.id : Nat) : Int) t9] = intVals (l ++ [(e.id, t9)]) from (intVals_snoc l (e.id, t9)).symm]; exact k _ (by rw [hst, List.map_append]; rfl))
                  · rename List.any _ _ = false => hq8
                    rw [← hrb, hq8, if_neg (by simp), List.append_nil, ← hl] at hst
                    exact LCg.CompEnd.intro (by k_asm) (by k_asm) _ (by walk_at "my_sub") o3 S9' (fun K k => k l hst.symm)
              · intro g l hl D3 h3 tk3 F₃ N₃ o3
                rw [List.size_toArray, hvl, List.take_length] at hl
                k_steps
                unfold StopHere
                refine ne_ints0 (by k_asm) (by k_mem) (by k_mem) hlr hl (by ktr_units) ?_
                k_steps
                rename Fr _ _ _ _ => F8
                exact TE.intro F8 (by k_asm) (by walk_at "my_sub") (List.forall_mem_cons.mpr ⟨Ne.symm hI2, (List.forall_mem_cons.mp off).2⟩) (.inr ⟨_, by k_mem, rfl, _, rfl⟩) (fun K k => k _ _ (by exact f1) (by exact f2) ⟨_, by exact f3⟩ (by exact f4) ⟨_, hc6⟩)
            · intro m₁ oc f1 f2 f3 f4 hoc h tk F₁ N₁
              k_steps
              exact hret _ _ _ _ (by k_asm) (by k_asm) ⟨_, rfl, rfl⟩
end

-- the head: the walk gives the claim. The names top.tw.. are laid ahead so that the library lays no twins (it goes on without: the compiled file is 4 MB, not 98 MB)
noncomputable def hdAs : List Nat := [2,3,15,17,18,20,21,22,23,24,25,26,27,28,29,30,31,32,33,34,35,36,37,38,39,41,42,44,45,46,48,49,51,52,53,55,56,58,59,60,62,63,65,66,67,69,70,72,73,74,76,77,79,80,81,89,91,92,94,95,96,98,99,101,102,103,105,106,108,109,110,111,112,113,114,117,120,121,122,124,125,127,128,129,131,132,134,135,136,138,139,141,142,143,145,146,148,149,150,152,153,155,156,157,159,160,162,163,164,166,167,169,170,171,173,174,176,177,178,180,181,183,184,185,188,189,190,197,199,200,202,203,204,205,206,207,210,217,218,219,229,231,232,234,235,236,238,239,241,242,243,245,246,248,249,250,252,253,255,256,257,259,260,262,263,264,266,267,269,270,271,273,274,276,277,278,281,282,283,285,286,288,289,290,292,293,295,296,297,299,300,302,303,304,306,307,309,310,311,312,313,314,315,318,326,328,329,331,332,333,334,335,336,337,347,349,350,352,353,354,356,357,359,360,361,363,364,366,367,368,370,371,373,374,375,377,378,380,381,382,384,385,387,388,389,391,392,394,395,396,398,399,401,402,403,405,406,408,409,410,412,413,415,416,417,419,420,422,423,424,426,427,429,430,431,433,434,436,437,438,440,441,443,444,445,447,448,450,451,452,454,455,457,458,459,461,462,464,465,466,468,469,471,472,473,475,476,478,479,480,482,483,485,486,487,489,490,492,493,494,496,497,499,500,501,503,504,506,507,508,510,511,513,514,515,517,518,520,521,522,523,524,525,526,529,531,532,534,535,536,538,539,541,542,543,545,546,548,549,550,553,554,555,557,558,560,561,562,565,566,567,570,571,572,575,576,577,580,581,582,585,586]
theorem hdAs_ok : ∀ P, hdAs = (hd.heap_1 P).map (·.1) := fun _ => by kernel_rfl
noncomputable def lawD : {x : DefRec × List (Str × Expr) // defOf hd.view_1 PySem.Challenge.rw_sm0078_01.row.name = some x} := by
  refine ⟨(?d, ?k), ?h⟩
  case h => rfl
namespace top
theorem tw4468942710605802240 : True := trivial
theorem tw1139600151236580504 : True := trivial
theorem tw10996937224433265937 : True := trivial
theorem tw8025738503920905074 : True := trivial
theorem tw5240762971458559404 : True := trivial
theorem tw18186074749648716422 : True := trivial
theorem tw18085771088847121727 : True := trivial
theorem tw8107780213005350392 : True := trivial
theorem tw8657480035899644758 : True := trivial
theorem tw3969286963782609292 : True := trivial
theorem tw6240723676877644813 : True := trivial
theorem tw9272544492142499777 : True := trivial
theorem tw8693662901424576113 : True := trivial
theorem tw10079171474624433434 : True := trivial
theorem tw2619622883677149074 : True := trivial
theorem tw4773702212245658779 : True := trivial
theorem tw8237333600419904120 : True := trivial
theorem tw4134505453457115739 : True := trivial
theorem tw3479634599624807885 : True := trivial
theorem tw9437893007894698314 : True := trivial
theorem tw10915162052029792233 : True := trivial
theorem tw10936122117785486979 : True := trivial
theorem tw17810072253543177317 : True := trivial
theorem tw427420600052151026 : True := trivial
theorem tw5868845118606482295 : True := trivial
theorem tw13177472732611162249 : True := trivial
theorem tw6859976401760118174 : True := trivial
theorem tw18289109515434150305 : True := trivial
theorem tw14402358008270493973 : True := trivial
theorem tw14371913498598963198 : True := trivial
theorem tw14917401599646851644 : True := trivial
theorem tw15286249088069653756 : True := trivial
theorem tw9673933992889287130 : True := trivial
theorem tw10773188271377071773 : True := trivial
theorem tw12415523145999629524 : True := trivial
theorem tw672699306608606093 : True := trivial
theorem tw15874363893724204672 : True := trivial
theorem tw15177526630643400193 : True := trivial
theorem tw14823308797102314842 : True := trivial
theorem tw11457754044182789617 : True := trivial
theorem tw15095372191486117680 : True := trivial
theorem tw2822501910515967889 : True := trivial
theorem tw7128477653932159489 : True := trivial
theorem tw4058662728301269685 : True := trivial
theorem tw10657950659306570408 : True := trivial
theorem tw17355269125676882429 : True := trivial
theorem tw2029088862249889922 : True := trivial
theorem tw2220570432770164149 : True := trivial
theorem tw7671549972530922468 : True := trivial
theorem tw1284575025550258836 : True := trivial
theorem tw15569959144833144457 : True := trivial
theorem tw14168018189251442112 : True := trivial
theorem tw5766051744304087583 : True := trivial
theorem tw9305691244287143441 : True := trivial
theorem tw14372152842798730730 : True := trivial
theorem tw8148004212497801138 : True := trivial
theorem tw13369591340354186047 : True := trivial
theorem tw2377541652452675900 : True := trivial
theorem tw8874702517807110003 : True := trivial
theorem tw9590735534726013551 : True := trivial
theorem tw12894197372075662830 : True := trivial
theorem tw17741875731164886585 : True := trivial
theorem tw987869383939708018 : True := trivial
theorem tw17176029603704830031 : True := trivial
theorem tw6694047246710070196 : True := trivial
theorem tw2544169868661182894 : True := trivial
theorem tw3254097082911018636 : True := trivial
theorem tw7740461459972228597 : True := trivial
theorem tw8640399195822439974 : True := trivial
theorem tw5118827330378232414 : True := trivial
theorem tw12094960947251128927 : True := trivial
theorem tw6124053682588569230 : True := trivial
theorem tw14263998999751124003 : True := trivial
theorem tw7990429038631628895 : True := trivial
theorem tw13501252493785611398 : True := trivial
theorem tw339143206060000330 : True := trivial
theorem tw4331257952254489624 : True := trivial
theorem tw7681529838311687354 : True := trivial
theorem tw6756868429301003459 : True := trivial
theorem tw6662652255960138227 : True := trivial
theorem tw1212798325632107971 : True := trivial
theorem tw12317137736924338119 : True := trivial
theorem tw17470836177267949868 : True := trivial
theorem tw16054190913257422852 : True := trivial
theorem tw17046948494117081484 : True := trivial
theorem tw17219337458794519322 : True := trivial
theorem tw14901070454687303710 : True := trivial
theorem tw17788931634197215145 : True := trivial
theorem tw4655869559712951663 : True := trivial
theorem tw12080426169559351053 : True := trivial
theorem tw16666122058527598403 : True := trivial
theorem tw13799840507378627052 : True := trivial
theorem tw17492772389151264855 : True := trivial
theorem tw1706793611546318481 : True := trivial
theorem tw83393220934416808 : True := trivial
theorem tw2972514686349903234 : True := trivial
theorem tw3002795768020413707 : True := trivial
theorem tw14724332232928298890 : True := trivial
theorem tw7657828476027519975 : True := trivial
theorem tw4498253355057717688 : True := trivial
theorem tw4940147422707163885 : True := trivial
theorem tw10617020205504526918 : True := trivial
theorem tw53344730913325255 : True := trivial
theorem tw10797620697341660853 : True := trivial
theorem tw6749217079512962374 : True := trivial
theorem tw2686433634493928565 : True := trivial
theorem tw14399976873020721970 : True := trivial
theorem tw5915399644114372684 : True := trivial
theorem tw1584292188352093569 : True := trivial
theorem tw10574840078274726829 : True := trivial
theorem tw16713831800681072344 : True := trivial
theorem tw16597617366809209970 : True := trivial
theorem tw14747140909534839006 : True := trivial
theorem tw4828031223510198475 : True := trivial
theorem tw16795567611416646642 : True := trivial
theorem tw15059952678800108311 : True := trivial
theorem tw2685012915969955173 : True := trivial
theorem tw15878805988109762761 : True := trivial
theorem tw5983031951866500094 : True := trivial
theorem tw3712731000106771831 : True := trivial
theorem tw708234853630380328 : True := trivial
theorem tw17828378304095215089 : True := trivial
theorem tw8327351992414209593 : True := trivial
theorem tw956942650209027819 : True := trivial
theorem tw47109162367338493 : True := trivial
theorem tw11141966352661209427 : True := trivial
theorem tw8281120267493503204 : True := trivial
theorem tw5058314954733539658 : True := trivial
theorem tw13500427573557490136 : True := trivial
theorem tw6893477703608230032 : True := trivial
theorem tw1803303928475200142 : True := trivial
theorem tw661290744650703789 : True := trivial
theorem tw4010397242664982755 : True := trivial
theorem tw1112988674713690477 : True := trivial
theorem tw953821971998124167 : True := trivial
theorem tw8973803690348224638 : True := trivial
theorem tw14537839394382259888 : True := trivial
theorem tw18194552166560175392 : True := trivial
theorem tw8443935842833279946 : True := trivial
theorem tw17103585973383926153 : True := trivial
theorem tw8204474986945543665 : True := trivial
theorem tw6930518751129746686 : True := trivial
theorem tw13272337422414781067 : True := trivial
theorem tw9990226795618131978 : True := trivial
theorem tw13223034962123697568 : True := trivial
theorem tw8813761850579938390 : True := trivial
theorem tw8999917154711486175 : True := trivial
theorem tw16453443671601555132 : True := trivial
theorem tw427269002284569659 : True := trivial
theorem tw9961057766049560675 : True := trivial
theorem tw10414433010598505635 : True := trivial
theorem tw7715697345341360870 : True := trivial
theorem tw16719718919923625709 : True := trivial
theorem tw16264823338695392855 : True := trivial
theorem tw10001883323181062329 : True := trivial
theorem tw13899568491130100285 : True := trivial
theorem tw6714425360046729362 : True := trivial
theorem tw2007660962349395123 : True := trivial
theorem tw11133666699803404755 : True := trivial
theorem tw6650944932020542203 : True := trivial
theorem tw14450715343900746980 : True := trivial
theorem tw5105846836358774362 : True := trivial
theorem tw2103985501979894447 : True := trivial
theorem tw10956490626425055710 : True := trivial
theorem tw13968125046926948103 : True := trivial
theorem tw13420762306968818387 : True := trivial
theorem tw104434173382791472 : True := trivial
theorem tw5088376156974544275 : True := trivial
theorem tw7059692629156357883 : True := trivial
theorem tw4916261283513009128 : True := trivial
theorem tw2514443458684651071 : True := trivial
theorem tw8823455108540655025 : True := trivial
theorem tw6761616313442571491 : True := trivial
theorem tw13994475860397038760 : True := trivial
theorem tw5225916559131626549 : True := trivial
theorem tw8679839319945467846 : True := trivial
theorem tw9152664641465651067 : True := trivial
theorem tw12209182163369298222 : True := trivial
theorem tw2770239361232196585 : True := trivial
theorem tw10017263926548143515 : True := trivial
theorem tw4699463449715708850 : True := trivial
theorem tw10195997230039290492 : True := trivial
theorem tw4695670854781333657 : True := trivial
theorem tw16885616592811714743 : True := trivial
theorem tw12425085872883035938 : True := trivial
theorem tw7213333562754528385 : True := trivial
theorem tw3796891538752321733 : True := trivial
theorem tw1209819496270969543 : True := trivial
theorem tw6885214360128481674 : True := trivial
theorem tw2926424126403749041 : True := trivial
theorem tw9229161468869434483 : True := trivial
theorem tw12764151676501842404 : True := trivial
theorem tw6430265229019958763 : True := trivial
theorem tw2506305409684761478 : True := trivial
theorem tw15271675978053873483 : True := trivial
theorem tw7557910624720293991 : True := trivial
theorem tw2665807947273092163 : True := trivial
theorem tw453181688931711583 : True := trivial
theorem tw2847958352784047137 : True := trivial
theorem tw9666326922614434849 : True := trivial
theorem tw8043003576528973991 : True := trivial
theorem tw2988451766255067171 : True := trivial
theorem tw1601500998369573665 : True := trivial
theorem tw15740088241188596515 : True := trivial
theorem tw1697544655201012999 : True := trivial
theorem tw7717162694582976202 : True := trivial
theorem tw2835187731363253809 : True := trivial
theorem tw6906291655842520137 : True := trivial
theorem tw11982747722937265360 : True := trivial
theorem tw7600245330811189008 : True := trivial
theorem tw6659320528611288953 : True := trivial
theorem tw649594095290182367 : True := trivial
theorem tw1655259298481077034 : True := trivial
theorem tw18367679650794681301 : True := trivial
theorem tw17177869089781658578 : True := trivial
theorem tw16415559393655328363 : True := trivial
theorem tw1886144042066472794 : True := trivial
theorem tw14771320824794740959 : True := trivial
theorem tw6187478851450931391 : True := trivial
theorem tw4835499133494076262 : True := trivial
theorem tw1275901062530889299 : True := trivial
theorem tw17565814175750979855 : True := trivial
theorem tw2741389259953327712 : True := trivial
theorem tw2722852734226103192 : True := trivial
theorem tw1833847959688406909 : True := trivial
theorem tw6491118196486620199 : True := trivial
theorem tw4859757453598101857 : True := trivial
theorem tw10694878333477680388 : True := trivial
theorem tw8598144960395782539 : True := trivial
theorem tw2812155379371279736 : True := trivial
theorem tw7160873610591055699 : True := trivial
theorem tw8735323631387419056 : True := trivial
theorem tw14271504846744893398 : True := trivial
theorem tw11760055953109336660 : True := trivial
theorem tw9503340733035011235 : True := trivial
theorem tw5245862010334584759 : True := trivial
theorem tw2464713573024523455 : True := trivial
theorem tw15787364395269599680 : True := trivial
theorem tw352232786441526191 : True := trivial
theorem tw2405475915293451298 : True := trivial
theorem tw8265191368974092141 : True := trivial
theorem tw17030962893124633753 : True := trivial
theorem tw1971433849790844608 : True := trivial
theorem tw11199532085631943738 : True := trivial
theorem tw9843447840031818808 : True := trivial
theorem tw8265311939077410998 : True := trivial
theorem tw14983691940233647259 : True := trivial
theorem tw17022078359063049780 : True := trivial
theorem tw7458633546980236471 : True := trivial
theorem tw2369445192022557226 : True := trivial
theorem tw1195175773429642966 : True := trivial
theorem tw10562855833978642645 : True := trivial
theorem tw2683898200743741643 : True := trivial
theorem tw12638030207367898728 : True := trivial
theorem tw7587601194962177611 : True := trivial
theorem tw13385244156195431271 : True := trivial
theorem tw5278709424875269971 : True := trivial
theorem tw13134186033006778460 : True := trivial
theorem tw1843344800811705456 : True := trivial
theorem tw10567129059001840431 : True := trivial
theorem tw14826035006057030972 : True := trivial
theorem tw93012567124736588 : True := trivial
theorem tw1638113669730673903 : True := trivial
theorem tw18185382058313985135 : True := trivial
theorem tw3739144386018749749 : True := trivial
theorem tw15860264024139754761 : True := trivial
theorem tw14657780768301432306 : True := trivial
theorem tw2267912224990424062 : True := trivial
theorem tw5860347150701562758 : True := trivial
theorem tw13710211086531791108 : True := trivial
theorem tw1294077662247117797 : True := trivial
theorem tw2446451932059125521 : True := trivial
theorem tw887695700811335699 : True := trivial
theorem tw8689318265317240412 : True := trivial
theorem tw1869187583165140508 : True := trivial
theorem tw5581607755468803823 : True := trivial
theorem tw620129878449983639 : True := trivial
theorem tw10361075674979980167 : True := trivial
theorem tw4205137553216949640 : True := trivial
theorem tw12535971307161669396 : True := trivial
theorem tw7250933059871147345 : True := trivial
theorem tw16439428074185983240 : True := trivial
theorem tw9614876229902214918 : True := trivial
theorem tw13983857475226248213 : True := trivial
theorem tw146815374380898660 : True := trivial
theorem tw3767615275625035234 : True := trivial
theorem tw3474246075231452896 : True := trivial
theorem tw18237780215024852062 : True := trivial
theorem tw6973401727384321114 : True := trivial
theorem tw16782997733028217545 : True := trivial
theorem tw607988649233969195 : True := trivial
theorem tw2126296398998916975 : True := trivial
theorem tw7847352863974893604 : True := trivial
theorem tw3567177698169325468 : True := trivial
theorem tw5889316905344633881 : True := trivial
theorem tw8139039716903228087 : True := trivial
theorem tw13975414291046593716 : True := trivial
theorem tw3548060758652744671 : True := trivial
theorem tw13068111086705522682 : True := trivial
theorem tw3664424711883983056 : True := trivial
theorem tw13261893007816960818 : True := trivial
theorem tw11520865232209809239 : True := trivial
theorem tw16273406610938067001 : True := trivial
theorem tw15058813355848621054 : True := trivial
theorem tw13370185576492129568 : True := trivial
theorem tw7855079511596107753 : True := trivial
theorem tw16505052424419052368 : True := trivial
theorem tw81815255157605957 : True := trivial
theorem tw12385144161495827662 : True := trivial
theorem tw12166907935582030026 : True := trivial
theorem tw12376051458212225564 : True := trivial
theorem tw14502225709538309166 : True := trivial
theorem tw6611520831114928346 : True := trivial
theorem tw17981982808018919739 : True := trivial
theorem tw9843949296442739443 : True := trivial
theorem tw1475165856519544709 : True := trivial
theorem tw11383000496634168614 : True := trivial
theorem tw17582957951858275007 : True := trivial
theorem tw7325726471975496349 : True := trivial
theorem tw13303987763403120937 : True := trivial
theorem tw4840481374290595910 : True := trivial
theorem tw9739860059890490050 : True := trivial
theorem tw13985988839938425345 : True := trivial
theorem tw8472579005086612782 : True := trivial
theorem tw13307591127769906961 : True := trivial
theorem tw8054331753737935190 : True := trivial
theorem tw3337584539547039419 : True := trivial
theorem tw3855276242980373810 : True := trivial
theorem tw17089494485692210459 : True := trivial
theorem tw5839659824258004927 : True := trivial
theorem tw12783364522390391256 : True := trivial
theorem tw9149571693438533347 : True := trivial
theorem tw15299407806266782574 : True := trivial
theorem tw6505410396798821541 : True := trivial
theorem tw17315540178315561739 : True := trivial
theorem tw7673058066778466091 : True := trivial
theorem tw1068965626710143233 : True := trivial
theorem tw7414872774492366064 : True := trivial
theorem tw2555065506035805374 : True := trivial
theorem tw9233335307524088747 : True := trivial
theorem tw17781115878593249900 : True := trivial
theorem tw13889309363888878346 : True := trivial
theorem tw12545222027267286695 : True := trivial
theorem tw12483720753089274532 : True := trivial
theorem tw5244899138074338376 : True := trivial
theorem tw2809488002615124206 : True := trivial
theorem tw12105128591322288922 : True := trivial
theorem tw10648311167861321448 : True := trivial
theorem tw14597223018079223185 : True := trivial
theorem tw15646934709686841381 : True := trivial
theorem tw860223938195835975 : True := trivial
theorem tw9016798869158615873 : True := trivial
theorem tw6664487174759623829 : True := trivial
theorem tw6487610083215253720 : True := trivial
theorem tw11960245374511038805 : True := trivial
theorem tw6286779285267259847 : True := trivial
theorem tw5728218623943512802 : True := trivial
theorem tw6333448901615975916 : True := trivial
theorem tw9759319705405543751 : True := trivial
theorem tw16840627104734473223 : True := trivial
theorem tw6898770573198911631 : True := trivial
theorem tw11279390925490393535 : True := trivial
theorem tw14317375437502057738 : True := trivial
theorem tw14459580976405569124 : True := trivial
theorem tw4791253341166991637 : True := trivial
theorem tw1142415686869020238 : True := trivial
theorem tw6473336682457920079 : True := trivial
theorem tw814325599930780420 : True := trivial
theorem tw11240886729373846589 : True := trivial
theorem tw7198060816514059695 : True := trivial
theorem tw11072019736110318841 : True := trivial
theorem tw6674990990233134667 : True := trivial
theorem tw16866024460163772082 : True := trivial
theorem tw16325430554902658873 : True := trivial
theorem tw9166809390415177425 : True := trivial
theorem tw5596365628329696591 : True := trivial
theorem tw1676862907878916244 : True := trivial
theorem tw1297684725254868899 : True := trivial
theorem tw10783980745131425670 : True := trivial
theorem tw2968346561183084112 : True := trivial
theorem tw6176384092110617959 : True := trivial
theorem tw76412952228603488 : True := trivial
theorem tw16821654228018055803 : True := trivial
theorem tw6381231289166406305 : True := trivial
theorem tw17486766287000646611 : True := trivial
theorem tw11613256710310857696 : True := trivial
theorem tw8729362747519067210 : True := trivial
theorem tw196536941598035525 : True := trivial
theorem tw6786057226368545225 : True := trivial
theorem tw17474498911051797155 : True := trivial
theorem tw2417791160451022400 : True := trivial
theorem tw3217022616335106338 : True := trivial
theorem tw12392516345856041104 : True := trivial
theorem tw2581206410525282061 : True := trivial
theorem tw5476889619067714990 : True := trivial
theorem tw1149218181149386328 : True := trivial
theorem tw11053662475850362967 : True := trivial
theorem tw16172636075833099725 : True := trivial
theorem tw1486479319815781832 : True := trivial
theorem tw9768079942903668216 : True := trivial
theorem tw9743097575036673082 : True := trivial
theorem tw8538268897159353584 : True := trivial
theorem tw8369368087495890639 : True := trivial
theorem tw11762496359356365647 : True := trivial
theorem tw7008692893051332821 : True := trivial
theorem tw5938664839603501006 : True := trivial
theorem tw14762295962024373759 : True := trivial
theorem tw12787338502077490372 : True := trivial
theorem tw7381879191629600215 : True := trivial
theorem tw9589608677651300831 : True := trivial
theorem tw9631074621892390191 : True := trivial
theorem tw6211089042160764376 : True := trivial
theorem tw10090393231696489298 : True := trivial
theorem tw7847650389618582240 : True := trivial
theorem tw4736427724481360342 : True := trivial
theorem tw16420938139371093754 : True := trivial
theorem tw5225153198818245361 : True := trivial
theorem tw14349089067433371257 : True := trivial
theorem tw11189890337720088615 : True := trivial
theorem tw2443449257678562572 : True := trivial
theorem tw16800595933775061595 : True := trivial
theorem tw2770563814800254177 : True := trivial
theorem tw16759092144687519636 : True := trivial
theorem tw13928562000808390012 : True := trivial
theorem tw13432635357386499347 : True := trivial
theorem tw864819663365544661 : True := trivial
theorem tw9178861053002065721 : True := trivial
theorem tw3696473221133414273 : True := trivial
theorem tw13290321428070320777 : True := trivial
theorem tw1123975283337734383 : True := trivial
theorem tw72247145696351765 : True := trivial
theorem tw8184561461823581802 : True := trivial
theorem tw3874152929960365753 : True := trivial
theorem tw5552270689369575618 : True := trivial
theorem tw3995942328266245912 : True := trivial
theorem tw15985961358823992270 : True := trivial
theorem tw877433047237710547 : True := trivial
theorem tw6448850889433096767 : True := trivial
theorem tw8637452081102412489 : True := trivial
theorem tw2758071753971750899 : True := trivial
theorem tw1124271682379634556 : True := trivial
theorem tw4807692442873511580 : True := trivial
theorem tw4796303294375832693 : True := trivial
theorem tw2596539476470345881 : True := trivial
theorem tw1394568958698188020 : True := trivial
theorem tw5303079699428457377 : True := trivial
theorem tw5513142621748847562 : True := trivial
theorem tw3776753064480771068 : True := trivial
theorem tw9165953624949470791 : True := trivial
theorem tw8622502720953521162 : True := trivial
theorem tw8410488445778877200 : True := trivial
theorem tw4177254973167742082 : True := trivial
theorem tw18394268562011335289 : True := trivial
theorem tw11459358961799972967 : True := trivial
theorem tw17542608870123051758 : True := trivial
theorem tw795583310449317561 : True := trivial
theorem tw1040915598704419856 : True := trivial
theorem tw9442318146202087700 : True := trivial
theorem tw3422688185749166683 : True := trivial
theorem tw4076138812419527698 : True := trivial
theorem tw8345894832289464959 : True := trivial
theorem tw13713866747541496747 : True := trivial
theorem tw9335426496214029073 : True := trivial
theorem tw14145802354927516647 : True := trivial
theorem tw9227057690007400460 : True := trivial
theorem tw16155163154822807229 : True := trivial
theorem tw6203543418390704334 : True := trivial
theorem tw13318506193475082254 : True := trivial
theorem tw13802547742096326172 : True := trivial
theorem tw1988063486488863061 : True := trivial
theorem tw216529984938456764 : True := trivial
theorem tw7204998973626084599 : True := trivial
theorem tw2985252069258134486 : True := trivial
theorem tw13864677062968915208 : True := trivial
theorem tw16736118626332596326 : True := trivial
theorem tw4526881389914513428 : True := trivial
theorem tw3486219094355674750 : True := trivial
theorem tw17346259052997144950 : True := trivial
theorem tw6265701101103706036 : True := trivial
theorem tw10399464001100048223 : True := trivial
theorem tw4656485037274611717 : True := trivial
theorem tw16196420915677631385 : True := trivial
theorem tw2057334267981633021 : True := trivial
theorem tw3871027444623705763 : True := trivial
theorem tw12643491718579748851 : True := trivial
theorem tw17964300760807480141 : True := trivial
theorem tw5523086135645875356 : True := trivial
theorem tw6912233166142098652 : True := trivial
theorem tw1088946173253831356 : True := trivial
theorem tw7913636548009798097 : True := trivial
theorem tw12427389293880184781 : True := trivial
theorem tw14608685727046917156 : True := trivial
theorem tw15169761463676818070 : True := trivial
theorem tw17872498390731745468 : True := trivial
theorem tw11858546649754279707 : True := trivial
theorem tw3315250197877816394 : True := trivial
theorem tw4159251561096739476 : True := trivial
theorem tw5398424786039705171 : True := trivial
theorem tw11994683656316670133 : True := trivial
theorem tw775762912060472103 : True := trivial
theorem tw17953984050398360512 : True := trivial
theorem tw9227541089923242437 : True := trivial
theorem tw105208000716104510 : True := trivial
theorem tw2924597203103170677 : True := trivial
theorem tw15722756333993289495 : True := trivial
theorem tw4299629679881509495 : True := trivial
theorem tw11582926029173025856 : True := trivial
theorem tw11334203419191126389 : True := trivial
theorem tw3976154599441133093 : True := trivial
theorem tw3561193834555079511 : True := trivial
theorem tw4597200072644226624 : True := trivial
theorem tw15542334942015070624 : True := trivial
theorem tw11845233108574324481 : True := trivial
theorem tw4784893810139332661 : True := trivial
theorem tw15349318334595610263 : True := trivial
theorem tw4671429814451907529 : True := trivial
theorem tw12318557346453588183 : True := trivial
theorem tw6503730183909636620 : True := trivial
theorem tw4213018616267185653 : True := trivial
theorem tw1732150942055357024 : True := trivial
theorem tw15918733279669447828 : True := trivial
theorem tw13706816188851595723 : True := trivial
theorem tw6624316729101989866 : True := trivial
theorem tw10387756524941946643 : True := trivial
theorem tw908825868028484722 : True := trivial
theorem tw16004416686337608138 : True := trivial
theorem tw8507776931139520737 : True := trivial
theorem tw15976228082101565994 : True := trivial
theorem tw16174758807025615021 : True := trivial
theorem tw4555866861457887817 : True := trivial
theorem tw11116745826364501430 : True := trivial
theorem tw11430207588045935325 : True := trivial
theorem tw10341860258655708415 : True := trivial
theorem tw9068506458530023791 : True := trivial
theorem tw2580922434103091657 : True := trivial
theorem tw297971269722091814 : True := trivial
theorem tw3140898538269762758 : True := trivial
theorem tw2287823674025257028 : True := trivial
theorem tw6127594578889010139 : True := trivial
theorem tw14796646475526232899 : True := trivial
theorem tw12930341388693044974 : True := trivial
theorem tw10864713392326063847 : True := trivial
theorem tw4571971715460732019 : True := trivial
theorem tw1814787853859245837 : True := trivial
theorem tw15254643099363442306 : True := trivial
theorem tw728428047077509346 : True := trivial
theorem tw11159431927160009238 : True := trivial
theorem tw13044034144603486326 : True := trivial
theorem tw8810280945414196856 : True := trivial
theorem tw4383139521930768336 : True := trivial
theorem tw12819366960792805191 : True := trivial
theorem tw1321871150748368714 : True := trivial
theorem tw517144808224063464 : True := trivial
theorem tw12958502747184954254 : True := trivial
theorem tw15451780782824253742 : True := trivial
theorem tw14987219478266130788 : True := trivial
theorem tw11334350811105764591 : True := trivial
theorem tw17594962761535629368 : True := trivial
theorem tw10448899703829047738 : True := trivial
theorem tw14632489290957082403 : True := trivial
theorem tw16044733080236030384 : True := trivial
theorem tw10548783162686979305 : True := trivial
theorem tw1522322319653140107 : True := trivial
theorem tw14142502885225118848 : True := trivial
theorem tw575894324575664597 : True := trivial
theorem tw15638586536077026902 : True := trivial
theorem tw1291508964198565346 : True := trivial
theorem tw13326734554550294991 : True := trivial
theorem tw3484022092364678248 : True := trivial
theorem tw14466935161476858967 : True := trivial
theorem tw6431110157172167083 : True := trivial
theorem tw17323899518341599180 : True := trivial
theorem tw16580785732701462914 : True := trivial
theorem tw401921906979044612 : True := trivial
theorem tw2731995056826638727 : True := trivial
theorem tw12256363837256957063 : True := trivial
theorem tw2145171640123136144 : True := trivial
theorem tw15687709949711836451 : True := trivial
theorem tw5648408011753718230 : True := trivial
theorem tw6812286434817487243 : True := trivial
theorem tw15520076703209659932 : True := trivial
theorem tw3195968871104189447 : True := trivial
theorem tw18019038629786789233 : True := trivial
theorem tw11203750815551599093 : True := trivial
theorem tw2732273902793177162 : True := trivial
theorem tw17886615442053742456 : True := trivial
theorem tw16204670001084760307 : True := trivial
theorem tw11542710104232473196 : True := trivial
theorem tw6292954644110606532 : True := trivial
theorem tw12540527436937284434 : True := trivial
theorem tw8363718466572441477 : True := trivial
theorem tw17103177528636943170 : True := trivial
theorem tw1585457916280141200 : True := trivial
theorem tw8560541052185303311 : True := trivial
theorem tw5507162329139097715 : True := trivial
theorem tw11922380849998532372 : True := trivial
theorem tw9259421805112917234 : True := trivial
theorem tw6746510453823603384 : True := trivial
theorem tw10194810499950245846 : True := trivial
theorem tw14671331368771545958 : True := trivial
theorem tw3730354652608582461 : True := trivial
theorem tw4362939472636745446 : True := trivial
theorem tw10187264123177260123 : True := trivial
theorem tw16352630495959832749 : True := trivial
theorem tw4951766788466123468 : True := trivial
theorem tw8212240652046128837 : True := trivial
theorem tw14697636140705633519 : True := trivial
theorem tw14789260269991461300 : True := trivial
theorem tw13001836021917841797 : True := trivial
theorem tw10008474027749305400 : True := trivial
theorem tw2959558403388039037 : True := trivial
theorem tw4392038535549328194 : True := trivial
theorem tw6908635100366463001 : True := trivial
theorem tw2782073688633401757 : True := trivial
theorem tw390997316461189296 : True := trivial
theorem tw17428532607074087071 : True := trivial
theorem tw17795014544551873601 : True := trivial
theorem tw17545328352263074274 : True := trivial
theorem tw13889484949932952446 : True := trivial
theorem tw9685713192446186341 : True := trivial
theorem tw18371284783138465269 : True := trivial
theorem tw7845129631348957993 : True := trivial
theorem tw8694864300669457046 : True := trivial
theorem tw6383614241601562808 : True := trivial
theorem tw9382581127745807760 : True := trivial
theorem tw3195522803047326042 : True := trivial
theorem tw11443710868159068359 : True := trivial
theorem tw10774637447528242797 : True := trivial
theorem tw1016984595167383106 : True := trivial
theorem tw7830913209206220567 : True := trivial
theorem tw2867133514656366558 : True := trivial
theorem tw4046864289407762814 : True := trivial
theorem tw6189502492464219833 : True := trivial
theorem tw15240379268576122478 : True := trivial
theorem tw14611434983143301774 : True := trivial
theorem tw995497684801637723 : True := trivial
theorem tw9800703332001039478 : True := trivial
theorem tw2907113945770861938 : True := trivial
theorem tw6883741973766446791 : True := trivial
theorem tw9851269098105209369 : True := trivial
theorem tw7204493036743257322 : True := trivial
theorem tw13987285891283452908 : True := trivial
theorem tw2533078294621698928 : True := trivial
theorem tw9913501989792142831 : True := trivial
theorem tw15922344460919717956 : True := trivial
theorem tw46980244435833615 : True := trivial
theorem tw8311017846404947139 : True := trivial
theorem tw6438537300738474071 : True := trivial
theorem tw9953747333497923681 : True := trivial
theorem tw1108800333578037850 : True := trivial
theorem tw10006222313960134694 : True := trivial
theorem tw1492452104121835379 : True := trivial
theorem tw17085176360113175178 : True := trivial
theorem tw602653604445443664 : True := trivial
theorem tw956089473029861405 : True := trivial
theorem tw283044589724301 : True := trivial
theorem tw1245559373397905713 : True := trivial
theorem tw8159302507568227503 : True := trivial
theorem tw16058212318047004132 : True := trivial
theorem tw18008055252877512497 : True := trivial
theorem tw4713442408853163898 : True := trivial
theorem tw6370870915552960936 : True := trivial
theorem tw1147548669246485465 : True := trivial
theorem tw8143265674769528471 : True := trivial
theorem tw3820434133910038737 : True := trivial
theorem tw2365566498512967660 : True := trivial
theorem tw18245740138792012028 : True := trivial
theorem tw501154541418245514 : True := trivial
theorem tw14235281626263879747 : True := trivial
theorem tw6042063481754889096 : True := trivial
theorem tw12958664272152378060 : True := trivial
theorem tw2218668502564051296 : True := trivial
theorem tw4547018644641229820 : True := trivial
theorem tw4166218997396506358 : True := trivial
theorem tw12718909917080609646 : True := trivial
theorem tw8523463495250067690 : True := trivial
theorem tw3261557481417251176 : True := trivial
theorem tw11334415319851112604 : True := trivial
theorem tw1400011881503588481 : True := trivial
theorem tw17555251805378815213 : True := trivial
theorem tw3120133295221510679 : True := trivial
theorem tw15744752440731449612 : True := trivial
end top
section
  local macro_rules | `(tactic| first | refine $e:term | fail $_s:str) => `(tactic| (refine $e; (case hc => assumption)))
set_option Elab.async true in
set_option maxHeartbeats 8000000 in
theorem top (walk : WalkO hd.view_1 [] (XL hd.view_1 []) (kHook hd.heap_1 hdAs hdAs_ok).says PySem.Challenge.rw_sm0078_01.row.toRowW lawD.1.1 lawD.1.2 fun f vs => PySem.call f vs) : PySem.Challenge.rw_sm0078_01.Holds := by
  w_on
  o_law
  o_head (kHook hd.heap_1 hdAs hdAs_ok)
  case hw => w_witness2
end

-- the law
def PoolQ (h₀ : Heap) (L : Addr) (m : Str → Option Value) (news : Led) (s : Shared) (v : Value) (s' : Shared) : Prop := ∃ h' tk' a o, s' = { s with heap := h', toks := tk' } ∧ Fr h₀ L h' m ∧ News h₀ L h' ((a, o) :: news) ∧ SrcO o ∧ v = .ref a ∧ ∀ p ∈ news, p.1 ≠ a
theorem join_pool {prog : Program} {w : World} {A : Around} {t : Sem Value} {Q E : Value → Shared → Prop} {s : Shared} {h₀ : Heap} {L : Addr} {m : Str → Option Value} {news : Led} (_F : Fr h₀ L s.heap m) (_N : News h₀ L s.heap news) (h : wpAny (model prog w) A t (PoolQ h₀ L m news s) E s)
    (k : ∀ h' tk' a o, Fr h₀ L h' m → News h₀ L h' ((a, o) :: news) → SrcO o → (∀ p ∈ news, p.1 ≠ a) → Q (.ref a) { s with heap := h', toks := tk' }) : StopHere (wpAny (model prog w) A t Q E s) :=
  wpAny_mono h (fun v s' hp => by obtain ⟨h', tk', a, o, rfl, F, N, hs, rfl, hf⟩ := hp; exact k h' tk' a o F N hs hf) (fun _ _ e => e)
theorem PoolQ.intro {h₀ : Heap} {L : Addr} {m : Str → Option Value} {news all : Led} {s : Shared} {h0 h' : Heap} {tk tk' : Nat} {a : Addr} {o : Obj} (F : Fr h₀ L h' m) (N : News h₀ L h' all) (sub : ∀ p ∈ (a, o) :: news, p ∈ all) (hs : SrcO o) (hf : ∀ p ∈ news, p.1 ≠ a) : PoolQ h₀ L m news { s with heap := h0, toks := tk } (.ref a) { s with heap := h', toks := tk' } :=
  ⟨h', tk', a, o, rfl, F, fun p hp => N p (sub p hp), hs, rfl, hf⟩
theorem law_base {h₀ h : Heap} {L vl kl : Addr} {vs ks : List Value} {a b : Nat} {rest : Led} (N : News h₀ L h ((vl, listOf vs.toArray a) :: (kl, listOf ks.toArray b) :: rest)) (h1 : ∀ v ∈ vs, ∃ x t, v = .str x t ∧ ValOk x) (h2 : ∀ v ∈ ks, ∃ kd t, v = .str kd t ∧ kd.cps.size ≤ 100) (h3 : ks.length ≤ 10) :
    ∃ (vl' kl' : Addr) (vs ks : List Value) (a b : Nat), vl' = vl ∧ kl' = kl ∧ News h₀ L h ((vl', listOf vs.toArray a) :: (kl', listOf ks.toArray b) :: rest) ∧ (∀ v ∈ vs, ∃ x t, v = .str x t ∧ ValOk x) ∧ (∀ v ∈ ks, ∃ kd t, v = .str kd t ∧ kd.cps.size ≤ 100) ∧ ks.length ≤ 10 := ⟨vl, kl, vs, ks, a, b, rfl, rfl, N, h1, h2, h3⟩
theorem srcO_pool {g : Int} {b : Bool} {t1 t2 : Tok} {n : Nat} (hg : 0 ≤ g) : SrcO (listOf #[.int (g * if b = true then 1 else 0) t1, .int (((g.fmod 2147483629 + 17) * 48271).fmod 2147483647) t2] n) :=
  ⟨_, _, _, _, _, rfl, Int.mul_nonneg hg (by split <;> omega), fmod_lo _ (by omega), fmod_hi _ (by omega)⟩
theorem great_nn {c : Int} : 0 ≤ if -1 - c > c then -1 - c else c := by split <;> omega
theorem list_call {h : Heap} {a : Addr} {vs : List Value} (_h : h.IsList a vs.toArray) : ∃ a' vs', a' = a ∧ vs' = vs := ⟨a, vs, rfl, rfl⟩
section
theorem w35 : True := by
  k_with_none
  (k_with "~my_fold" => ((fail_if_success (fail_if_success k_fold)); (refine (let qk := _; (?_ : wpAny _ _ _ qk _ _)))))
  (k_with "~my_state" => ((fail_if_success (fail_if_success (conv => arg 6; pattern PySem.Shared.mk _ _ _ _ _))); (refine (let sk := _; (?_ : wpAny _ _ _ _ _ sk)))))
  (k_with "~my_around" => ((try refine (let vk := _; (?_ : wpAny _ _ (execs _ vk) _ _ _))); (refine (let ak := _; (?_ : wpAny _ ak _ _ _ _)))))
  (k_with "~my_enter" => (refine wpAny_call ?_; k_dflt ktr_enter; (try walk_at "my_around")))
  (k_with "~use2" => (
  (first | (refine post00 ?_; intro h9z9 tk9z9 F9z9 N9z9) | (refine post10 ?_; intro x1z9 h9z9 tk9z9 F9z9 N9z9) | (refine post20 ?_; intro x1z9 x2z9 h9z9 tk9z9 F9z9 N9z9) | (refine post21 ?_; intro x1z9 x2z9 q1z9 h9z9 tk9z9 F9z9 N9z9) | (refine post22 ?_; intro x1z9 x2z9 q1z9 q2z9 h9z9 tk9z9 F9z9 N9z9) | (refine post31 ?_; intro x1z9 x2z9 x3z9 q1z9 h9z9 tk9z9 F9z9 N9z9) | (refine post32 ?_; intro x1z9 x2z9 x3z9 q1z9 q2z9 h9z9 tk9z9 F9z9 N9z9) | (refine post33 ?_; intro x1z9 x2z9 x3z9 q1z9 q2z9 q3z9 h9z9 tk9z9 F9z9 N9z9) | (refine post41 ?_; intro x1z9 x2z9 x3z9 x4z9 q1z9 h9z9 tk9z9 F9z9 N9z9))
  (try walk_at "my_fold")
  (try dsimp only)
  (try k_sweep)
  (try walk_at "my_fold")))
  (k_with "~my_tail" => first | assumption | (refine' List.mem_cons_of_mem _ ?_; walk_at "my_tail"))
  (k_with "~my_sub" => first | exact fun _ hpz9 => hpz9 | exact List.forall_mem_nil _ | (refine' List.forall_mem_cons.mpr ⟨?_, ?_⟩; k_mem; walk_at "my_sub") | (intro pz9 hpz9; walk_at "my_tail"))
  (k_with "k_units" => ktr_units)
  (k_with "k_mem" => first | exact List.mem_cons_self | ktr_member | (refine' List.mem_cons_of_mem _ ?_; k_mem))
  (k_with "~my_and" => first | assumption | (refine And.right ?_; walk_at "my_and"))
  (k_with "~my_fresh" => first | assumption | exact ne_of_lts (by assumption) | exact ne_of_allLt (by first | assumption | exact And.right (by assumption) | exact And.right (And.right (by assumption)) | exact And.right (And.right (And.right (by assumption))) | exact And.right (And.right (And.right (And.right (by assumption)))) | exact And.right (And.right (And.right (And.right (And.right (by assumption))))) | exact And.right (And.right (And.right (And.right (And.right (And.right (by assumption)))))) | exact And.right (And.right (And.right (And.right (And.right (And.right (And.right (by assumption))))))) | exact And.right (And.right (And.right (And.right (And.right (And.right (And.right (And.right (by assumption))))))))))
  (k_with "~my_off" => first | assumption | exact List.forall_mem_nil _ | (refine' List.forall_mem_cons.mpr ⟨?_, ?_⟩; (first | k_ne | exact (by assumption : ∀ pz9 ∈ (_ : Led), pz9.1 ≠ _) _ (by k_mem)); walk_at "my_off") | (intro pz9 hpz9; first | exact (by assumption : ∀ pz9 ∈ (_ : Led), pz9.1 ≠ _) pz9 hpz9 | exact (by assumption : ∀ pz9 ∈ (_ : Led), pz9.1 ≠ _) pz9 (by walk_at "my_tail") | (have h9z9 := ltN ((by assumption : ∀ pz9 ∈ (_ : Led), pz9.1 < _) pz9 hpz9); refine neN ?_; omega)))
  (k_with "k_all" => walk_at "my_off")
  (k_with "~my_lt" => first | assumption | exact And.left (by assumption) | exact And.left (And.right (by assumption)) | exact And.left (And.right (And.right (by assumption))) | exact And.left (And.right (And.right (And.right (by assumption)))) | exact And.left (And.right (And.right (And.right (And.right (by assumption))))) | exact And.left (And.right (And.right (And.right (And.right (And.right (by assumption)))))) | exact And.left (And.right (And.right (And.right (And.right (And.right (And.right (by assumption))))))) | exact And.left (And.right (And.right (And.right (And.right (And.right (And.right (And.right (by assumption)))))))) | exact And.left (And.right (And.right (And.right (And.right (And.right (And.right (And.right (And.right (by assumption))))))))) | exact And.left (And.right (And.right (And.right (And.right (And.right (And.right (And.right (And.right (And.right (by assumption)))))))))) | exact And.left (And.right (And.right (And.right (And.right (And.right (And.right (And.right (And.right (And.right (And.right (by assumption))))))))))) | exact And.left (And.right (And.right (And.right (And.right (And.right (And.right (And.right (And.right (And.right (And.right (And.right (by assumption)))))))))))) | exact And.left (And.right (And.right (And.right (And.right (And.right (And.right (And.right (And.right (And.right (And.right (And.right (And.right (by assumption))))))))))))) | exact And.left (And.right (And.right (And.right (And.right (And.right (And.right (And.right (And.right (And.right (And.right (And.right (And.right (And.right (by assumption)))))))))))))) | exact And.left (And.right (And.right (And.right (And.right (And.right (And.right (And.right (And.right (And.right (And.right (And.right (And.right (And.right (And.right (by assumption))))))))))))))) | exact And.left (And.right (And.right (And.right (And.right (And.right (And.right (And.right (And.right (And.right (And.right (And.right (And.right (And.right (And.right (And.right (by assumption)))))))))))))))))
  (k_with "k_ne" => (refine neN ?_; (try dsimp only); first | assumption | exact Ne.symm (by assumption) | (refine Nat.ne_of_lt ?_; walk_at "my_lt") | (refine Nat.ne_of_gt ?_; walk_at "my_lt") | omega))
  (k_with "~my_for" => (k_here; (rename Fr _ _ _ _ => lF'z9); (with_unfolding_all refine' for_any lF'z9 ?_); (try walk_at "my_fold"); walk_say "MY FOR"))
  (k_with "~my_look" => first | with_reducible assumption | rfl | assumption)
  (k_with "~exec For Name Name cons nil" => walk_at "my_for")
  (k_with "~exec For Name Call cons nil" => walk_at "my_for")
  (k_with "~exec For Name List cons nil" => walk_at "my_for")
  (k_with "~exec For Tuple Name cons nil" => walk_at "my_for")
  (k_with "~exec For Tuple Call cons nil" => walk_at "my_for")
  (k_with "~exec For Name BinOp cons nil" => walk_at "my_for")
  (k_with "~TurnA" => (dsimp only [TurnA]))
  (k_with "~eval ListComp" => (k_here; k_dflt (refine' comp_any (by k_asm) (by with_unfolding_all rfl) (by decide) (by rfl) (by decide) (by decide) ?_); (try k_fold); walk_say "MY COMP"))
  (k_with "~exec Assign cons ListComp" => (k_here; k_dflt (refine' comp_assign (by k_asm) (by rfl) (by with_unfolding_all rfl) (by with_unfolding_all rfl) (by decide) (by rfl) (by decide) (by rfl) (by rfl) (by decide) ?_); (try k_fold); walk_say "MY COMP"))
  (k_with "~TestElt" => (dsimp only [TestElt]; (try k_fold)))
  (k_with "~compareOp In str ref" => (k_here; k_dflt (refine' in_tuple_strs (tupK (by k_in) (by k_is)) (by repeat constructor) ?_)))
  (k_with "~compareOp In str ref" => (k_here; k_dflt (refine' in_tuple_strs (News.isTup (by k_asm) (by k_mem)) (by repeat constructor) ?_)))
  (k_with "~my_strs" => first | exact StrsIn.of _ | exact StrsIn.nil | exact StrsIn.one _ _)
  (k_with "~compareOp Eq ref ref" => (k_here; k_dflt (refine' eq_strs (by k_asm) (by k_mem) (by k_mem) (by walk_at "my_strs") (by walk_at "my_strs") (by k_units) ?_)))
  (k_with "~compareOp NotEq ref ref" => (k_here; k_dflt (refine' ne_strs (by k_asm) (by k_mem) (by k_mem) (by walk_at "my_strs") (by walk_at "my_strs") (by k_units) ?_)))
  (k_with "~my_size" => (simp only [List.size_toArray, strValues, List.length_map, Array.length_toList, List.length_append, List.length_dropLast, List.length_cons, List.length_nil, sizeLine_eq]; omega))
  (k_with "~subscriptTail Name Slice ref ref" => (k_here; (with_reducible show wpAny _ _ (subscriptTail _ (PySem.Expr.Slice none _ none _) (Value.ref _) (Value.ref _)) _ _ _); k_dflt (refine' kms_slice_lit (by k_asm) (by k_asm) (by exact News.isList (by k_asm) (by k_mem)) (by kmk_part) (by kmk_part) (by exact pick_dropLast _) ?_ (by with_unfolding_all rfl) (by kmk_pure) (by walk_at "my_size")); intro D'z9 h'z9 F'z9 N'z9 l1z9; (try k_lt l1z9); (try k_sweep)))
  (k_with "~subscriptTail Name UnaryOp ref int" => (k_here; (with_reducible show wpAny _ _ (subscriptTail _ _ (Value.ref _) (Value.int _ _)) _ _ _); k_dflt (refine' item_last (by exact News.isList (by k_asm) (by k_mem)) (by assumption) ?_)))
  (k_with "~binaryOp Add ref ref" => (k_here; k_dflt (refine' kmk_add_lit (by k_asm) (by k_asm) (by exact News.isList (by k_asm) (by k_mem)) (by exact News.isList (by k_asm) (by k_mem)) (by first | exact add_one _ _ _ | exact add_two _ _) ?_ (by walk_at "my_size")); intro D'z9 h'z9 F'z9 N'z9 l1z9; (try k_lt l1z9); (try k_sweep)))
  (k_with "~call ref" => (k_here; (with_reducible show wpAny _ _ (call (Value.ref 52) _) _ _ _); ktf_call (c_small _ _ _ _)))
  (k_with "~my_signs" => (law_clear; simp only [s_a, s_z, s_A, s_Z, s_0, s_9, lt1, str1_eq, e_us, e_co, e_mi, e_do, smallB_iff, startB_iff, charB_iff, ← decide_not, decide_eq_decide, decide_eq_true_eq, decide_eq_false_iff_not, decide_eq_true_eq, eq_comm (a := true), Bool.not_eq_true, Bool.not_eq_false] at *; omega))
  (k_with "~call ref" => (k_here; (with_reducible show wpAny _ _ (call (Value.ref 59) _) _ _ _); ktf_call (c_start _ _ _ _ (by assumption))))
  (k_with "~call ref" => (k_here; (with_reducible show wpAny _ _ (call (Value.ref 66) _) _ _ _); ktf_call (c_char _ _ _ _ (by assumption))))
  (k_with "~call ref" => (k_here; (with_reducible show wpAny _ _ (call (Value.ref 73) _) _ _ _); ktf_call (c_nmtoken _ _ _ _ (by assumption))))
  (k_with "~call ref" => (k_here; (with_reducible show wpAny _ _ (call (Value.ref 80) _) _ _ _); ktf_call (c_name _ _ _ _ (by assumption))))
  (k_with "~call ref" => (k_here; (with_reducible show wpAny _ _ (call (Value.ref 121) _) _ _ _); ktf_call (c_blank _ _ _ _ (by assumption))))
  (k_with "~call ref" => (k_here; (with_reducible show wpAny _ _ (call (Value.ref 128) _) _ _ _); ktf_call (c_norm _ _ _ _ _ _ (by assumption))))
  (k_with "~call ref" => (k_here; (with_reducible show wpAny _ _ (call (Value.ref 135) _) _ _ _); ktf_call (c_words _ _ _ _ _ _ (by assumption))))
  (k_with "~call ref" => (k_here; (with_reducible show wpAny _ _ (call (Value.ref 142) _) _ _ _); ktf_call (c_isword _ _ _ _ _ _ (by assumption))))
  (k_with "~call ref" => (k_here; (with_reducible show wpAny _ _ (call (Value.ref 149) _) _ _ _); ktf_call (c_fits _ _ _ _ _ _ _ _ _ _ _ _ _ _ _ _ _ _ _ _ (by assumption) (by assumption) (by k_mem) (by k_mem) (by k_mem) (by assumption))))
  (k_with "~call ref" => (k_here; (with_reducible show wpAny _ _ (call (Value.ref 566) _) _ _ _); ktf_call (c_lawword _ _ _ _ _ (by assumption) (by assumption))))
  (k_with "~call ref" => (k_here; (with_reducible show wpAny _ _ (call (Value.ref 561) _) _ _ _); ktf_call (c_parted _ _ _ _ (by assumption) (by assumption))))
  (k_with "~call builtin:len" => (k_here; (with_reducible show wpAny _ _ (call (Value.builtin _) [Value.ref _]) _ _ _); k_dflt (refine' len_at (by exact News.isList (by k_asm) (by k_mem)) (by first | omega | ((simp only [List.length_cons, List.length_nil, List.length_append, List.length_map, strValues]); omega)) ?_)))
  (k_with "~my_pick" => first | exact Pick.head | (refine' Pick.tail (by walk_at "my_pick")))
  (k_with "~call ref" => (k_here; (with_reducible show wpAny _ _ (call (Value.ref 542) _) _ _ _); ktr_call (c_take _ _ _ _ _ _ (by assumption) (by first | assumption | decide) (by first | assumption | decide) (by walk_at "my_off")) ()))
  (k_with "~call ref" => (k_here; (with_reducible show wpAny _ _ (call (Value.ref 549) _) _ _ _); ktr_call (c_one _ _ _ _ _ _ _ (by assumption) (by k_mem) (by first | assumption | exact Nat.le_of_ble_eq_true rfl) (by first | assumption | exact Nat.le_of_ble_eq_true rfl) (by walk_at "my_off")) ()))
  (k_with "~call ref" => (k_here; (with_reducible show wpAny _ _ (call (Value.ref 554) _) _ _ _); ktr_call (c_value _ _ _ _ (by assumption) (by walk_at "my_off")) ()))
  (k_with "~call ref" => (k_here; (with_reducible show wpAny _ _ (call (Value.ref 571) _) _ _ _); ktf_call (c_kind _ _ _ _ _ _ (by first | assumption | decide +kernel) (by k_asm))))
  (k_with "~my_tree" => first | assumption | (refine TreeIn.mono ?_ (by assumption); walk_at "my_sub"))
  (k_with "~call ref" => (k_here; (with_reducible show wpAny _ _ (call (Value.ref 367) _) _ _ _); ktf_call (c_row _ _ _ _ _ _ (by walk_at "my_tree") (by assumption) (by assumption))))
  (k_with "~call ref" => (k_here; (with_reducible show wpAny _ _ (call (Value.ref 444) _) _ _ _); ktf_call (c_tkind _ _ _ _ _ _ (by walk_at "my_tree") (by assumption) (by assumption))))
  (k_with "~call ref" => (k_here; (with_reducible show wpAny _ _ (call (Value.ref 451) _) _ _ _); ktf_call (c_tname _ _ _ _ _ _ (by walk_at "my_tree") (by assumption) (by assumption))))
  (k_with "~call ref" => (k_here; (with_reducible show wpAny _ _ (call (Value.ref 472) _) _ _ _); ktf_call (c_tvalue _ _ _ _ _ _ (by walk_at "my_tree") (by assumption) (by assumption))))
  (k_with "~call ref" => (k_here; (with_reducible show wpAny _ _ (call (Value.ref 486) _) _ _ _); ktf_call (c_children _ _ _ _ _ _ (by walk_at "my_tree") (by assumption) (by assumption))))
  (k_with "~call ref" => (k_here; (with_reducible show wpAny _ _ (call (Value.ref 493) _) _ _ _); ktf_call (c_attributes _ _ _ _ _ _ (by walk_at "my_tree") (by assumption) (by assumption))))
  (k_with "~call ref" => (k_here; (with_reducible show wpAny _ _ (call (Value.ref 451) _) _ _ _); ktf_call (c_tnameX _ _ _ _ _ _ _ (by walk_at "my_tree") (by assumption) (by assumption) (by first | assumption | exact rfl))))
  (k_with "k_ne" => (refine neN ?_; (try dsimp only); first | assumption | exact Ne.symm (by assumption) | (refine Nat.ne_of_lt ?_; walk_at "my_lt") | (refine Nat.ne_of_gt ?_; walk_at "my_lt") | omega | exact ne_of_mem (by assumption) (by k_mem) | exact Ne.symm (ne_of_mem (by assumption) (by k_mem))))
  (k_with "~exec While Compare cons nil" => (k_here; (rename Fr _ _ _ _ => lF'z9); (with_unfolding_all refine' while_any lF'z9 ?_); walk_say "MY WHILE"))
  (k_with "~my_ints" => first | exact IntsIn.of _ | exact IntsIn.nil | exact IntsIn.snoc _ _ _)
  (k_with "~compareOp Eq ref ref" => (k_here; k_dflt (refine' eq_ints (by k_asm) (by k_mem) (by k_mem) (by walk_at "my_ints") (by walk_at "my_ints") (by k_units) ?_)))
  (k_with "~compareOp NotEq ref ref" => (k_here; k_dflt (refine' ne_ints (by k_asm) (by k_mem) (by k_mem) (by walk_at "my_ints") (by walk_at "my_ints") (by k_units) ?_)))
  (k_with "~my_size" => (simp only [List.size_toArray, strValues, intVals, refVals, List.length_map, Array.length_toList, List.length_append, List.length_reverse, List.length_dropLast, List.length_cons, List.length_nil, sizeLine_eq]; omega))
  (k_with "~call builtin:list.append" => (k_here; (with_reducible show wpAny _ _ (call (Value.builtin _) [Value.ref _, _]) _ _ _); k_dflt (refine' append_my (by k_asm) (by k_asm) (by k_upd) (by walk_at "my_size") ?_); intro h'z9 F'z9 N'z9; (try k_sweep)))
  (k_with "~call builtin:list.pop" => (k_here; (with_reducible show wpAny _ _ (call (Value.builtin _) [Value.ref _]) _ _ _); k_dflt (refine' pop_my (by k_asm) (by k_asm) (by k_upd) (by walk_at "my_size") ?_); intro h'z9 F'z9 N'z9; (try k_sweep)))
  (k_with "~call builtin:list.extend" => (k_here; (with_reducible show wpAny _ _ (call (Value.builtin _) [Value.ref _, Value.ref _]) _ _ _); k_dflt (refine' extend_my (by k_asm) (by k_asm) (by k_mem) (by (intro k8z9; k_upd)) (by walk_at "my_size") ?_); intro k9z9 h'z9 F'z9 N'z9; (try dsimp only at N'z9); (try k_sweep)))
  (k_with "~subscriptTail Name Slice ref ref" => (k_here; (with_reducible show wpAny _ _ (subscriptTail _ (PySem.Expr.Slice none none (some _) _) (Value.ref _) (Value.ref _)) _ _ _); k_dflt (refine' rev_my (by k_asm) (by k_asm) (by exact News.isList (by k_asm) (by k_mem)) (by exact IsPart.int _ _) (by with_unfolding_all rfl) (by kmk_pure) (by walk_at "my_size") ?_); intro D'z9 h'z9 F'z9 N'z9 l1z9; (try k_lt l1z9); (try k_sweep)))
  (k_with "~my_dtd" => first | assumption | (refine DtdIn.mono ?_ (by assumption); walk_at "my_sub"))
  (k_with "~call ref" => (k_here; (with_reducible show wpAny _ _ (call (Value.ref 289) _) _ _ _); ktf_call (c_idname _ _ _ _ (by walk_at "my_dtd"))))
  (k_with "~call ref" => (k_here; (with_reducible show wpAny _ _ (call (Value.ref 277) _) _ _ _); ktf_call (c_rule _ _ _ _ _ _ _ (by walk_at "my_dtd") (by assumption))))
  (k_with "~call ref" => (k_here; (with_reducible show wpAny _ _ (call (Value.ref 156) _) _ _ _); ktf_call (c_walk _ _ _ _ _ _ (by walk_at "my_tree") (by assumption) (by assumption) (by assumption) (by assumption))))
  (k_with "~call ref" => (k_here; (with_reducible show wpAny _ _ (call (Value.ref 170) _) _ _ _); ktf_call (c_idtable _ _ _ _ _ _ (by walk_at "my_tree") (by walk_at "my_dtd") (by assumption) (by assumption))))
  (k_with "~my_tail" => first | assumption | (refine' List.mem_cons_of_mem _ ?_; walk_at "my_tail") | (refine' List.mem_append_left _ ?_; walk_at "my_tail") | (refine' List.mem_append_right _ ?_; walk_at "my_tail"))
  (k_with "k_mem" => first | exact List.mem_cons_self | ktr_member | (refine' List.mem_cons_of_mem _ ?_; k_mem) | (refine' List.mem_append_right _ ?_; k_mem) | (refine' List.mem_append_left _ ?_; k_mem))
  (k_with "~my_sub" => first | exact fun _ hpz9 => hpz9 | exact List.forall_mem_nil _ | (refine' List.forall_mem_cons.mpr ⟨?_, ?_⟩; k_mem; walk_at "my_sub") | (intro pz9 hpz9; walk_at "my_tail") | (refine' List.forall_mem_append.mpr ⟨?_, ?_⟩; walk_at "my_sub"; walk_at "my_sub"))
  (k_with "~call ref" => (k_here; (with_reducible show wpAny _ _ (call (Value.ref 184) _) _ _ _); ktf_call (c_broken _ _ _ _ _ _ (by walk_at "my_tree") (by walk_at "my_dtd") (by assumption) (by assumption))))
  (k_with "~call ref" => (k_here; (with_reducible show wpAny _ _ (call (Value.ref 177) _) _ _ _); ktf_call (c_refs _ _ _ _ _ _ _ _ (by walk_at "my_tree") (by walk_at "my_dtd") (by assumption) (by assumption) (by assumption) (by assumption) (by assumption))))
  (k_with "~call ref" => (k_here; (with_reducible show wpAny _ _ (call (Value.ref 189) _) _ _ _); ktf_call (c_referring _ _ _ _ _ _ _ _ (by walk_at "my_tree") (by walk_at "my_dtd") (by assumption) (by assumption))))
  (k_with "~my_below" => first | assumption | exact ktn_ltOf (by first | assumption | exact And.right (by assumption) | exact And.right (And.right (by assumption)) | exact And.right (And.right (And.right (by assumption))) | exact And.right (And.right (And.right (And.right (by assumption))))))
  (k_with "k_room" => ktr_room)
  (k_with "~call ref" => (k_here; (with_reducible show wpAny _ _ (call (Value.ref 535) _) _ _ _); (fail_if_success (with_reducible show wpAny _ _ _ (PoolQ _ _ _ _ _) _ _)); refine stopHere ?_))
  (k_with "~call ref" => (k_here; (with_reducible show wpAny _ _ (call (Value.ref 571) _) _ _ _); ktf_call (c_kind _ _ _ _ _ _ (by assumption) (by assumption))))
  (k_with "~call ref" => (k_here; (with_reducible show wpAny _ _ (call (Value.ref 581) _) _ _ _); refine stopHere ?_))
  trivial
set_option maxHeartbeats 8000000 in
theorem law_walk : WalkO hd.view_1 [] (XL hd.view_1 []) (kHook hd.heap_1 hdAs hdAs_ok).says PySem.Challenge.rw_sm0078_01.row.toRowW lawD.1.1 lawD.1.2 fun f vs => PySem.call f vs := by
  k_go0
  rename Shared => s1
  all_goals try k_fold
  k_steps
  change (_ : Value → Shared → Prop) _ _
  k_steps
  (try walk_at "my_fold")
  rename Obj => oc0
  rename Obj.data oc0 = _ => hoc0
  rename Heap.IsList _ _ _ => hL
  obtain ⟨sa, vs, e8, e9⟩ := list_call hL
  subst e8 e9
  rename News _ _ _ _ => N5
  obtain ⟨vl, kl, us, ks, n1, n2, e8, e9, N6, hus, hks, hk10⟩ := law_base N5 (List.forall_mem_cons.mpr ⟨⟨_, _, rfl, by decide +kernel, by decide +kernel⟩, List.forall_mem_cons.mpr ⟨⟨_, _, rfl, by decide +kernel, by decide +kernel⟩, List.forall_mem_cons.mpr ⟨⟨_, _, rfl, by decide +kernel, by decide +kernel⟩, List.forall_mem_nil _⟩⟩⟩)
    (by (repeat' (refine List.forall_mem_cons.mpr ⟨⟨_, _, rfl, by decide +kernel⟩, ?_⟩)); exact List.forall_mem_nil _) (Nat.le_refl _)
  subst e8 e9
  rename Fr _ _ _ _ => F5
  refine my_op F5 fun m5 F6 hm5 => ?_
  have e1 : m5 (Str.ofString "script") = some (.ref sa) := (hm5 _).trans (by rfl)
  have e2 : m5 (Str.ofString "kinds") = some (.ref kl) := (hm5 _).trans (by rfl)
  have hkc : @Ne Nat kl (s1.heap.objs.size + 1) := by k_ne
  have hvc : @Ne Nat vl (s1.heap.objs.size + 1) := by k_ne
  clear F5 N5 hm5
  refine iter_list (fun m₀ n₀ i K => ∀ m₁ oc, m₁ (Str.ofString "script") = some (.ref sa) → m₁ (Str.ofString "kinds") = some (.ref kl) → (∃ v, oc.data = .cell v) → K m₁ ((s1.heap.objs.size + 1, oc) :: (vl, listOf us.toArray n1) :: (kl, listOf ks.toArray n2) :: []))
    rfl (by k_asm) (cb_drop (news := (s1.heap.objs.size + 1, oc0) :: (vl, listOf us.toArray n1) :: (kl, listOf ks.toArray n2) :: []) N6 (by walk_at "my_sub")) (.inr ⟨_, by k_mem, rfl, _, rfl⟩) (fun K k => k _ oc0 (by exact e1) (by exact e2) ⟨_, hoc0⟩) ?_ ?_
  · intro I i v hv
    intro m₁ oc e1 e2 hoc oI h tk S off F₁ N₁
    (try walk_at "my_fold")
    refine Exists.elim (hus v (List.mem_of_getElem? (by simpa using hv))) fun x hx => Exists.elim hx fun t8 hx => ?_
    have hvx := hx.2
    have hve := hx.1
    subst hve
    refine Exists.elim hoc fun v5 hc5 => ?_
    have hIc : @Ne Nat I (s1.heap.objs.size + 1) := fun e => off _ (.head _) e.symm
    k_steps
    refine comp_list (fun n₀ j K => K [] n₀) rfl (by k_asm) (by k_asm) (.inr ⟨_, by k_mem, rfl, _, rfl⟩) (by rw [List.size_toArray, sizeLine_eq]; omega) rfl rfl (fun K k => by exact k) ?_ ?_
    · intro j v2 g hv9
      refine Exists.elim (hks v2 (List.mem_of_getElem? (by simpa using hv9))) fun kd hy => Exists.elim hy fun t9 hy => ?_
      have hkd := hy.2
      have hye := hy.1
      subst hye
      intro I3 oI3 C oC D3 h3 tk3 m₂ E' S9 hoC hB F₃ N₃ o3 ne
      dsimp only [BndN] at hB
      dsimp only [TestElt]
      k_steps
      exact LCg.CompEnd.intro (by k_asm) (by k_asm) _ (by walk_at "my_sub") o3 S9 (fun K k => k)
    · intro g D3 h3 tk3 F₃ N₃ o3
      k_steps
      rename Obj.data _ = Data.cell (some (Value.str x t8)) => hc6
      rename Fr _ _ _ _ => F8
      exact TE.intro F8 (by k_asm) (by walk_at "my_sub") (List.forall_mem_cons.mpr ⟨Ne.symm hIc, (List.forall_mem_cons.mp off).2⟩) (.inr ⟨_, by k_mem, rfl, _, rfl⟩) (fun K k => k _ _ (by exact e1) (by exact e2) ⟨_, hc6⟩)
  · intro m₁ oc e1 e2 hoc h tk F₁ N₁
    dsimp only
    (try walk_at "my_fold")
    refine Exists.elim hoc fun v5 hc5 => ?_
    k_steps
    refine join_pool (by k_asm) (by k_asm) ?_ ?_
    · k_steps
      all_goals exact PoolQ.intro (by k_asm) (by k_asm) (by walk_at "my_sub") (srcO_pool great_nn) (by walk_at "my_off")
    · intro h4 tk4 src o F4 N4 ho hsf
      have hcs : @Ne Nat src (s1.heap.objs.size + 1) := fun e => hsf _ (.head _) e.symm
      k_steps
      rename IsRange _ _ _ _ _ _ _ _ => hR
      refine iter_range (n := 2) (fun m₀ n₀ i K => ∀ m₁ o oc, m₁ (Str.ofString "source") = some (.ref src) → m₁ (Str.ofString "kinds") = some (.ref kl) → SrcO o → (∃ v, oc.data = .cell v) → K m₁ ((src, o) :: (s1.heap.objs.size + 1, oc) :: (vl, listOf us.toArray n1) :: (kl, listOf ks.toArray n2) :: []))
        rfl hR (by decide +kernel) (by decide +kernel) (by k_asm) (by k_asm) (fun K k => k _ o oc (by rfl) (by exact e2) ho ⟨_, hc5⟩) ?_ ?_
      · intro I i t hi m₁ o oc e1 e2 ho hoc oI h tk S off F₁ N₁
        (try walk_at "my_fold")
        refine Exists.elim hoc fun v5 hc5 => ?_
        have hIs : @Ne Nat I src := fun e => off _ (.head _) e.symm
        have hIc : @Ne Nat I (s1.heap.objs.size + 1) := fun e => off _ (.tail _ (.head _)) e.symm
        have hIv : @Ne Nat vl I := off _ (.tail _ (.tail _ (.head _)))
        have hIk : @Ne Nat kl I := off _ (.tail _ (.tail _ (.tail _ (.head _))))
        have hvs : @Ne Nat vl src := hsf _ (.tail _ (.head _))
        have hks2 : @Ne Nat kl src := hsf _ (.tail _ (.tail _ (.head _)))
        k_steps
        rename SrcO _ => ho2
        rename ValOk _ => hvx
        rename Obj.data _ = Data.cell (some (Value.str _ _)) => hc6
        refine comp_list (fun n₀ j K => K [] n₀) rfl (by k_asm) (by k_asm) (.inr ⟨_, by k_mem, rfl, _, rfl⟩) (by rw [List.size_toArray, sizeLine_eq]; omega) rfl rfl (fun K k => by exact k) ?_ ?_
        · intro j v2 g hv9
          refine Exists.elim (hks v2 (List.mem_of_getElem? (by simpa using hv9))) fun kd hy => Exists.elim hy fun t9 hy => ?_
          have hkd := hy.2
          have hye := hy.1
          subst hye
          intro I3 oI3 C oC D3 h3 tk3 m₂ E' S9 hoC hB F₃ N₃ o3 ne
          dsimp only [BndN] at hB
          dsimp only [TestElt]
          k_steps
          exact LCg.CompEnd.intro (by k_asm) (by k_asm) _ (by walk_at "my_sub") o3 S9 (fun K k => k)
        · intro g D3 h3 tk3 F₃ N₃ o3
          k_steps
          rename Fr _ _ _ _ => F8
          exact TE.intro F8 (by k_asm) (by walk_at "my_sub") (List.forall_mem_cons.mpr ⟨Ne.symm hIs, List.forall_mem_cons.mpr ⟨Ne.symm hIc, List.forall_mem_cons.mpr ⟨hIv, List.forall_mem_cons.mpr ⟨hIk, List.forall_mem_nil _⟩⟩⟩⟩) trivial (fun K k => k _ _ _ (by exact e1) (by exact e2) ho2 ⟨_, hc6⟩)
      · intro m₁ o oc e1 e2 ho hoc h tk F₁ N₁
        k_steps
        unfold StopHere
        ktr_call (c_right _ _ _ _ ho (List.forall_mem_cons.mpr ⟨Ne.symm hcs, (List.forall_mem_cons.mp hsf).2⟩)) ()
        k_steps
end

end Mine
set_option maxHeartbeats 8000000 in
theorem PySem.Challenge.cw_sm0078_01_holds : PySem.Challenge.rw_sm0078_01.Holds :=
  Mine.top Mine.law_walk
