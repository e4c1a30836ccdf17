import PyProof.Rows.All
import Wide.All
import OpenK.AllK
import Wide.FinOn
import Lean
import PySem.Challenge.RW_nt0587_01
open PySem PySem.W PyProof.Rows PySem.Calls
set_option Elab.async false
set_option linter.all false
namespace Mine
set_option maxRecDepth 100000 in
set_option maxHeartbeats 8000000 in
open_top hd for PySem.Challenge.rw_nt0587_01
local macro_rules | `(tactic| walk_at "d_use") => `(tactic| (
  (case dB => first | k_asm | fail "d_use: the frames below")
  (case dF => first | k_asm | fail "d_use: the frame")
  (case dX => first | k_asm | fail "d_use: the written part")
  (case dN => first | k_asm | fail "d_use: the ledger")
  (case dT => first | k_asm | fail "d_use: the top")
  (case dk => first | exact rfl | assumption | fail "d_use: the caller is no def")
  (case dd => first | ktr_room | fail "d_use: the frames' room")
  (case du => first | ktr_units | fail "d_use: the C units")))
local macro_rules | `(tactic| walk_at "d_entered") => `(tactic| (
  (case dA => exact rfl)
  (case df => exact rfl)
  (case dke => assumption)
  (case dB => assumption)
  (case dF => assumption)
  (case dX => assumption)
  (case dT => assumption)
  (case dp => assumption)
  (case dof => k_is)
  (case dcd => k_is)
  (case droom => ktr_room)
  (case dbind => exact BindsTo.of_eq rfl)
  (case c5 => decide)
  (case dloc => exact rfl)
  (case c2 => exact rfl)
  (case c3 => exact rfl)
  (case c4 => exact rfl)
  k_whole))

local macro_rules | `(tactic| walk_at "d_for") => `(tactic| ((rename Fr _ _ _ _ => lF'); (with_unfolding_all refine' For_invVF lF' ?k1 ?k2 ?_; (case k1 => exact rfl); (case k2 => exact rfl); k_whole)))
local macro_rules | `(tactic| walk_at "d_fort") => `(tactic| ((rename Fr _ _ _ _ => lF'); (with_unfolding_all refine' For_turns lF' ?_)))
section
variable {w : World} {loose : List Str} {mean : ExcName → Option Value} {mg mb : Str → Option Value}
abbrev Led := List (Addr × Obj)
def At (P : Heap → Prop) (h : Heap) : Prop := P h
theorem At.out {P : Heap → Prop} {h : Heap} (x : At P h) : P h := x
/- the new objects that stand in h' and not in g -/
def NewIn (g h' : Heap) (tl : Led) : Prop := ∀ p ∈ tl, h'.get? p.1 = some p.2 ∧ g.get? p.1 = none
/- what stands behind a call that began at s with heap s.heap -/
def Back (s : Shared) (P : Led → Value → Prop) (r : Value) (s' : Shared) : Prop :=
  ∃ h' tk' tl, s' = { s with heap := h', toks := tk' } ∧ s.heap.StaysIn h' ∧ NewIn s.heap h' tl ∧ P tl r
def Ends (g : Heap) (s : Shared) (P : Led → Value → Prop) (fl : Flow) (s' : Shared) : Prop :=
  ∃ h' tk' L' m' tl, s' = { s with heap := h', toks := tk' } ∧ Fr g L' h' m' ∧ News g L' h' tl ∧ P tl (match fl with | .ret v => v | _ => .none)

def Does (w : World) (loose : List Str) (mean : ExcName → Option Value) (mg mb : Str → Option Value) (f : Addr) (D U : Nat) (pre : Heap → Prop) (args : List Value) (P : Led → Value → Prop) : Prop :=
  ∀ (dp un : Nat) (gd : Option (List Code)) (cn : Str) (cs : Scope) (a : Addr) (ccd : Value) (cl : List (Str × Addr)) (outer : List Env) (A₀ : Around) (base h₀ : Heap) (L : Addr) (m : Str → Option Value) (s : Shared),
    Below A₀ base outer h₀ → Fr h₀ L s.heap m → (hd.heap_39 w.params).In h₀ → Top hd.view_39 loose mean mg mb h₀ → cs.kind = .function → At pre s.heap → dp + D < recursionLimit → un + U < cLine →
    wpAny (model PySem.Challenge.rw_nt0587_01.row.prog w) (ktrTop dp un gd cn cs L a ccd cl outer) (call (.ref f) args) (Back s P) (fun _ _ => False) s

section
variable {w : World} {loose : List Str} {mean : ExcName → Option Value} {mg mb : Str → Option Value}
variable {dp un : Nat} {gd : Option (List Code)} {cn : Str} {cs : Scope} {a : Addr} {ccd : Value} {cl : List (Str × Addr)} {outer : List Env} {A₀ : Around} {base h₀ : Heap} {L : Addr} {m : Str → Option Value} {news : Led} {s : Shared} {Q E : Value → Shared → Prop}

theorem frame_kept {h h' : Heap} (F : Fr h₀ L h m) (k : h.StaysIn h') : Fr h₀ L h' m := by
  obtain ⟨⟨oL, es, ep, hL, r⟩, k0, ab⟩ := F
  exact ⟨⟨oL, es, ep, k _ _ hL, r⟩, fun b o e => k _ _ (k0 b o e), ab⟩
theorem news_kept {h h' : Heap} {tl : Led} (F : Fr h₀ L h m) (N : News h₀ L h news) (k : h.StaysIn h') (n : NewIn h h' tl) : News h₀ L h' (tl ++ news) := by
  intro p hp
  obtain ⟨oL, _, _, hL, _⟩ := F.ns
  rcases List.mem_append.mp hp with q | q
  · refine ⟨(n p q).1, fun e => ?_, ?_⟩
    · have := (n p q).2; rw [e, hL] at this; cases this
    · cases e : h₀.get? p.1 with
      | none => rfl
      | some o => have := (n p q).2; rw [F.keep _ _ e] at this; cases this
  · exact ⟨k _ _ (N p q).1, (N p q).2⟩
theorem news_apart {h h' : Heap} {tl : Led} (N : News h₀ L h news) (n : NewIn h h' tl) : ∀ q ∈ tl, ∀ p ∈ news, p.1 ≠ q.1 :=
  fun q hq p hp e => by have := (N p hp).1; rw [e, (n q hq).2] at this; cases this

theorem Does.use {f : Addr} {D U : Nat} {pre : Heap → Prop} {args : List Value} {P : Led → Value → Prop} (C : Does w loose mean mg mb f D U pre args P)
    (B : Below A₀ base outer h₀) (F : Fr h₀ L s.heap m) (X : (hd.heap_39 w.params).In h₀) (N : News h₀ L s.heap news) (T : Top hd.view_39 loose mean mg mb h₀) (hk : cs.kind = .function) (hp : At pre s.heap) (hd : dp + D < recursionLimit) (hu : un + U < cLine)
    (ret : ∀ r tl h' tk', P tl r → Fr h₀ L h' m → News h₀ L h' (tl ++ news) → (∀ q ∈ tl, ∀ p ∈ news, p.1 ≠ q.1) → Q r { s with heap := h', toks := tk' }) :
    wpAny (model PySem.Challenge.rw_nt0587_01.row.prog w) (ktrTop dp un gd cn cs L a ccd cl outer) (call (.ref f) args) Q E s := by
  refine wpAny_mono (C dp un gd cn cs a ccd cl outer A₀ base h₀ L m s B F X T hk hp hd hu) (fun r s' b => ?_) fun _ _ x => x.elim
  obtain ⟨h', tk', tl, rfl, k, n, p⟩ := b
  exact ret r tl h' tk' p (frame_kept F k) (news_kept F N k n) (news_apart N n)

theorem enter0 {A : Around} {env : Env} {name qual : Str} {params : Arguments} {body : List Stmt} {scope : Scope} {dV kV doc pm cdv ct oc : Value} {an od : Option Addr} {osl : Array (Option Value)} {f : Addr} {args : List Value} {binds : List (Str × Value)} {P : Led → Value → Prop} {pre : Heap → Prop}
    (B : Below A₀ base outer h₀) (F : Fr h₀ L s.heap m) (X₀ : (hd.heap_39 w.params).In h₀) (T : Top hd.view_39 loose mean mg mb h₀) (hp : At pre s.heap) (hA : A.frames = some (env :: outer)) (hf : env.frame = some L) (hke : env.scope.kind = .function)
    (ho : (hd.heap_39 w.params).lookup f = some ⟨oc, od, .func (fnOf name qual params body scope dV kV doc pm an cdv ct), osl⟩) (hcd : codeIn (hd.heap_39 w.params) cdv qual = true) (hroom : A.depth < recursionLimit)
    (hbind : BindsTo s (fnOf name qual params body scope dV kV doc pm an cdv ct) ⟨args, []⟩ binds) (hloc : (binds.all fun x => decide (scope.names.lookup x.1 = some .local)) = true)
    (h : ∀ g L' h₁ tk, At pre g → Fr g L' h₁ (fun y => binds.reverse.lookup y) → News g L' h₁ [] → Below A base (env :: outer) g → (hd.heap_39 w.params).In g → Top hd.view_39 loose mean mg mb g →
      wpAny (model PySem.Challenge.rw_nt0587_01.row.prog w) (A.deeper (envOf qual scope L' f cdv)) (execs body (envOf qual scope L' f cdv)) (Ends g s P) (fun _ _ => False) { s with heap := h₁, toks := tk })
    (hco : scope.isCoroutine = false) (hgen : scope.isGenerator = false) (hk : scope.kind = .function)
    (hcell : ∀ x ∈ scope.names, x.2 ≠ .cell) : wpAny (model PySem.Challenge.rw_nt0587_01.row.prog w) A (call (.ref f) args) (Back s P) (fun _ _ => False) s := by
  refine wpAny_call ?_
  have N : News h₀ L s.heap [] := News.nil
  have XG : (hd.heap_39 w.params).In s.heap := X₀.keeps F.keep
  refine codeAny_call_def (fd := fnOf name qual params body scope dV kV doc pm an cdv ct) (body := body) (binds := binds) hroom (XG _ _ ho) rfl (T.nolimit.keeps F.keep) (codeRec_of XG hcd) rfl hbind hcell (locs hloc) (fun h₁ hns hk₁ => ?_) hco hgen hk
  refine wpAny_mono (h s.heap s.heap.objs.size h₁ _ hp ⟨hns, hk₁, Nat.le_refl _⟩ News.nil (pushX B F hf hke |> fun b => ⟨hA, b.stays, b.frames⟩) XG (T.keeps F.keep)) (fun fl s' e => ?_) fun _ _ x => x.elim
  obtain ⟨h', tk', L', m', tl, rfl, F', N', p⟩ := e
  exact ⟨h', tk', tl, rfl, F'.keep, fun q hq => ⟨(N' q hq).1, (N' q hq).2.2⟩, p⟩

theorem endV {g h' : Heap} {L' : Addr} {m' : Str → Option Value} {tk' : Nat} {R : Value → Prop} {fl : Flow} (F : Fr g L' h' m') (e : R (match fl with | .ret v => v | _ => .none)) :
    Ends g s (fun tl r => tl = [] ∧ R r) fl { s with heap := h', toks := tk' } := ⟨h', tk', L', m', [], rfl, F, News.nil, rfl, e⟩
theorem endO {g h' : Heap} {L' : Addr} {m' : Str → Option Value} {tk' : Nat} {P : Led → Value → Prop} {tl : Led} {fl : Flow} (F : Fr g L' h' m') (N : News g L' h' tl) (e : P tl (match fl with | .ret v => v | _ => .none)) :
    Ends g s P fl { s with heap := h', toks := tk' } := ⟨h', tk', L', m', tl, rfl, F, N, e⟩
/- hands back a value, and no new object -/
abbrev justV (R : Tok → Value) : Led → Value → Prop := fun tl r => tl = [] ∧ ∃ t, r = R t
theorem Does.useV {f : Addr} {D U : Nat} {pre : Heap → Prop} {args : List Value} {R : Tok → Value} (C : Does w loose mean mg mb f D U pre args (justV R))
    (B : Below A₀ base outer h₀) (F : Fr h₀ L s.heap m) (X : (hd.heap_39 w.params).In h₀) (N : News h₀ L s.heap news) (T : Top hd.view_39 loose mean mg mb h₀) (hk : cs.kind = .function) (hp : At pre s.heap) (hd : dp + D < recursionLimit) (hu : un + U < cLine)
    (ret : ∀ t h' tk', Fr h₀ L h' m → News h₀ L h' news → Q (R t) { s with heap := h', toks := tk' }) :
    wpAny (model PySem.Challenge.rw_nt0587_01.row.prog w) (ktrTop dp un gd cn cs L a ccd cl outer) (call (.ref f) args) Q E s :=
  C.use B F X N T hk hp hd hu fun r tl h' tk' p F' N' _ => by obtain ⟨rfl, t, rfl⟩ := p; exact ret t h' tk' F' N'

theorem endB {g h' : Heap} {L' : Addr} {m' : Str → Option Value} {tk' : Nat} {x y : Bool} (F : Fr g L' h' m') (e : y = x) : Ends g s (justV fun _ => .bool x) (.ret (.bool y)) { s with heap := h', toks := tk' } :=
  e ▸ ⟨h', tk', L', m', [], rfl, F, News.nil, rfl, 0, rfl⟩
theorem endS {g h' : Heap} {L' : Addr} {m' : Str → Option Value} {tk' : Nat} {x y : Str} {t : Tok} (F : Fr g L' h' m') (e : y = x) : Ends g s (justV fun t => .str x t) (.ret (.str y t)) { s with heap := h', toks := tk' } :=
  e ▸ ⟨h', tk', L', m', [], rfl, F, News.nil, rfl, t, rfl⟩
theorem endI {g h' : Heap} {L' : Addr} {m' : Str → Option Value} {tk' : Nat} {x y : Int} {t : Tok} (F : Fr g L' h' m') (e : y = x) : Ends g s (justV fun t => .int x t) (.ret (.int y t)) { s with heap := h', toks := tk' } :=
  e ▸ ⟨h', tk', L', m', [], rfl, F, News.nil, rfl, t, rfl⟩
end

end
theorem tick_base : True := by first | walk1 | trivial
section
variable {w : World} {loose : List Str} {mean : ExcName → Option Value} {mg mb : Str → Option Value}
/- what stands at a turn's end: σ's letters give the frame's map, the ledger that turns; T is what else stands -/
def LTurn {σ : Type} (M : σ → Str → Option Value) (Ld : σ → Led) (T : Led) (x : Str) (J : σ → Prop) (h₀ : Heap) (L : Addr) (Q : Flow → Shared → Prop) (s₁ : Shared) (f : Flow) (s₂ : Shared) : Prop :=
  match f with
  | .ret v => Q (.ret v) s₂
  | .brk => Q .next s₂
  | _ => ∃ h' tk m' news' c', s₂ = { s₁ with heap := h', toks := tk } ∧ Fr h₀ L h' m' ∧ News h₀ L h' news' ∧ (∀ p ∈ Ld c', p ∈ news') ∧ (∀ p ∈ T, p ∈ news') ∧ (∀ y, y ≠ x → m' y = M c' y) ∧ J c'

section
variable {σ : Type} {M : σ → Str → Option Value} {Ld : σ → Led} {T : Led} {x : Str} {J : σ → Prop} {h₀ : Heap} {L : Addr} {Q : Flow → Shared → Prop} {s₁ : Shared}
theorem LTurn.next {h' : Heap} {tk : Nat} {m' : Str → Option Value} {news' : Led} (c' : σ) (F : Fr h₀ L h' m') (N : News h₀ L h' news') (hl : ∀ p ∈ Ld c', p ∈ news') (ht : ∀ p ∈ T, p ∈ news') (hm : ∀ y, y ≠ x → m' y = M c' y) (hj : J c') :
    LTurn M Ld T x J h₀ L Q s₁ .next { s₁ with heap := h', toks := tk } := ⟨h', tk, m', news', c', rfl, F, N, hl, ht, hm, hj⟩
end

section
variable {prog : Program} {w : World} {A : Around} {E : Value → Shared → Prop} {s : Shared} {env : Env} {h₀ : Heap} {x : Str} {body : List Stmt} {Q : Flow → Shared → Prop}
theorem loop_my {σ : Type} {I : Addr} {fp wr : List Addr} {n : Nat} {P : Nat → Value → Prop} {St : Nat → Heap → Prop} (M : σ → Str → Option Value) (Ld : σ → Led) (cst : Led) (J : Nat → σ → Prop) (c₀ : σ) {adr : List Addr}
    (W : Walks prog w A I fp wr n P St) (hLf : env.locals ∉ fp) (hwr : ∀ b ∈ wr, h₀.get? b = none) (hnw : ∀ p ∈ Ld c₀ ++ cst, p.1 ∉ wr) (hfp : ∀ q ∈ Ld c₀, q.1 ∉ fp) (hadr : ∀ c, (Ld c).map (·.1) = adr) (hst : St 0 s.heap)
    (F : Fr h₀ env.locals s.heap (M c₀)) (N : News h₀ env.locals s.heap (Ld c₀ ++ cst)) (hj : J 0 c₀)
    (turn : ∀ i v c h tk own, i < n → P i v → J i c → OwnOff own adr → Fr h₀ env.locals h (fun y => if y = x then some v else M c y) → News h₀ env.locals h (Ld c ++ (cst ++ own)) →
      wpAny (model prog w) A (execs body env) (LTurn M Ld (cst ++ own) x (J (i + 1)) h₀ env.locals Q { s with heap := h, toks := tk }) E { s with heap := h, toks := tk })
    (done : ∀ c u h tk, J n c → Fr h₀ env.locals h (fun y => if y = x then u else M c y) → News h₀ env.locals h (Ld c ++ cst) → Q .next { s with heap := h, toks := tk }) :
    LoopAtV prog w A h₀ env x body Q E (.ref I) s := by
  have inAdr : ∀ c, ∀ p ∈ Ld c, ∃ q ∈ Ld c₀, q.1 = p.1 := fun c p hp => by
    have : p.1 ∈ (Ld c).map (·.1) := List.mem_map_of_mem hp
    rw [hadr c, ← hadr c₀] at this
    obtain ⟨q, hq, e⟩ := List.mem_map.mp this
    exact ⟨q, hq, e⟩
  refine ⟨I, fp, wr, n, P, St, M c₀, Ld c₀ ++ cst, (fun i m nx => ∃ c, nx = Ld c ++ cst ∧ (∀ y, y ≠ x → m y = M c y) ∧ J i c), rfl, W, hLf, hwr, hnw, hst, F, N, ⟨c₀, rfl, fun _ _ => rfl, hj⟩, ?_, ?_⟩
  · rintro i v m₁ news₁ s₁ own ⟨hh', tk', rfl⟩ hin hP ⟨c, rfl, hm, hJ⟩ hoff hown _ _ _ F₁ N₁
    have hsep : OwnOff own adr := by
      intro p hp b hb e
      rw [← hadr c₀] at hb
      obtain ⟨q, hq, rfl⟩ := List.mem_map.mp hb
      exact hfp q hq (e ▸ hown p hp)
    have em : (fun y => if y = x then some v else m₁ y) = fun y => if y = x then some v else M c y := by
      funext y
      by_cases hy : y = x
      · simp [hy]
      · simp only [if_neg hy]; exact hm y hy
    rw [em] at F₁
    have N₂ : News h₀ env.locals hh' (Ld c ++ (cst ++ own)) := fun p hp => N₁ p (by
      simp only [List.mem_append] at hp ⊢
      rcases hp with h | h | h
      · exact .inr (.inl h)
      · exact .inr (.inr h)
      · exact .inl h)
    refine wpAny_mono (turn i v c hh' tk' own hin hP hJ hsep F₁ N₂) (fun f s₂ p => ?_) fun _ _ e => e
    have fin : (∃ h' tk m' news' c', s₂ = { s with heap := h', toks := tk } ∧ Fr h₀ env.locals h' m' ∧ News h₀ env.locals h' news' ∧ (∀ p ∈ Ld c', p ∈ news') ∧ (∀ p ∈ cst ++ own, p ∈ news') ∧ (∀ y, y ≠ x → m' y = M c' y) ∧ J (i + 1) c') →
        LoopStepU h₀ env.locals wr own (fun m nx => ∃ c, nx = Ld c ++ cst ∧ (∀ y, y ≠ x → m y = M c y) ∧ J (i + 1) c) { s with heap := hh', toks := tk' } .next s₂ := by
      rintro ⟨h', tk, m', news', c', e, F', N', hl, ht, hm', hj'⟩
      refine ⟨rfl, h', tk, m', Ld c' ++ cst, e, F', fun p hp => N' p ?_, fun p hp hq => ?_, c', rfl, hm', hj'⟩
      · simp only [List.mem_append] at hp
        rcases hp with h | h | h
        · exact ht p (List.mem_append.mpr (.inr h))
        · exact hl p h
        · exact ht p (List.mem_append.mpr (.inl h))
      · rcases List.mem_append.mp hp with h | h
        · obtain ⟨q, hq', e'⟩ := inAdr c' p h
          exact hnw q (List.mem_append.mpr (.inl hq')) (e' ▸ hq)
        · exact hnw p (List.mem_append.mpr (.inr h)) hq
    cases f with
    | ret v => exact .ret p
    | brk => exact .brk p
    | next => exact .next (fin p)
    | cont => exact .cont (fin p)
  · rintro h' tk m' news' F' N' _ ⟨c, rfl, hm, hJ⟩
    refine done c (m' x) h' tk hJ ?_ N'
    have em : (fun y => if y = x then m' x else M c y) = m' := by
      funext y
      by_cases hy : y = x
      · simp [hy]
      · simp only [if_neg hy]; exact (hm y hy).symm
    rw [em]; exact F'

/- for c in text -/
theorem loop_str {σ : Type} {xt : Str} {tx : Tok} (M : σ → Str → Option Value) (Ld : σ → Led) (cst : Led) (J : Nat → σ → Prop) (c₀ : σ) {adr : List Addr}
    (hh : A.handled = none) (hadr : ∀ c, (Ld c).map (·.1) = adr) (F : Fr h₀ env.locals s.heap (M c₀)) (N : News h₀ env.locals s.heap (Ld c₀ ++ cst)) (hj : J 0 c₀)
    (turn : ∀ i (n : Nat) t c h tk own, xt.cps[i]? = some n → J i c → OwnOff own adr → Fr h₀ env.locals h (fun y => if y = x then some (.str ⟨#[n]⟩ t) else M c y) → News h₀ env.locals h (Ld c ++ (cst ++ own)) →
      wpAny (model prog w) A (execs body env) (LTurn M Ld (cst ++ own) x (J (i + 1)) h₀ env.locals Q { s with heap := h, toks := tk }) E { s with heap := h, toks := tk })
    (done : ∀ c u h tk, J xt.cps.size c → Fr h₀ env.locals h (fun y => if y = x then u else M c y) → News h₀ env.locals h (Ld c ++ cst) → Q .next { s with heap := h, toks := tk }) :
    wpAny (model prog w) A (pyIter (.str xt tx)) (fun it s₂ => LoopAtV prog w A h₀ env x body Q E it s₂) E s := by
  refine wpAny_pyIter_str fun o St hW hst => ?_
  refine loop_my M Ld cst J c₀ (hW A hh) ?_ ?_ ?_ ?_ hadr hst (F.push _) (fun p hp => ⟨Heap.get?_push_of_some _ (N p hp).1, (N p hp).2⟩) hj ?_ ?_
  · intro hm
    exact absurd F.ns.lt ((List.mem_singleton.mp hm) ▸ Nat.lt_irrefl _)
  · intro b hb
    rw [List.mem_singleton.mp hb]
    exact next_is_new F
  · intro p hp hI
    exact absurd (Heap.lt_size (N p hp).1) ((List.mem_singleton.mp hI) ▸ Nat.lt_irrefl _)
  · intro p hp hI
    exact absurd (Heap.lt_size (N p (List.mem_append.mpr (.inl hp))).1) ((List.mem_singleton.mp hI) ▸ Nat.lt_irrefl _)
  · rintro i v c h tk own hi ⟨n, u, hn, rfl⟩ hJ hoff F₁ N₁
    exact turn i n u c h tk own hn hJ hoff F₁ N₁
  · exact done

/- for v in a list -/
theorem loop_list {σ : Type} {l : Addr} {vs : List Value} (M : σ → Str → Option Value) (Ld : σ → Led) (cst : Led) (J : Nat → σ → Prop) (c₀ : σ) {adr : List Addr}
    (hh : A.handled = none) (hl : s.heap.IsList l vs.toArray) (hlL : l ≠ env.locals) (hlo : l ∉ adr) (hadr : ∀ c, (Ld c).map (·.1) = adr) (F : Fr h₀ env.locals s.heap (M c₀)) (N : News h₀ env.locals s.heap (Ld c₀ ++ cst)) (hj : J 0 c₀)
    (turn : ∀ i v c h tk own, vs[i]? = some v → J i c → OwnOff own adr → Fr h₀ env.locals h (fun y => if y = x then some v else M c y) → News h₀ env.locals h (Ld c ++ (cst ++ own)) →
      wpAny (model prog w) A (execs body env) (LTurn M Ld (cst ++ own) x (J (i + 1)) h₀ env.locals Q { s with heap := h, toks := tk }) E { s with heap := h, toks := tk })
    (done : ∀ c u h tk, J vs.length c → Fr h₀ env.locals h (fun y => if y = x then u else M c y) → News h₀ env.locals h (Ld c ++ cst) → Q .next { s with heap := h, toks := tk }) :
    wpAny (model prog w) A (pyIter (.ref l)) (fun it s₂ => LoopAtV prog w A h₀ env x body Q E it s₂) E s := by
  obtain ⟨ol, hol, _⟩ := id hl
  have hne : l ≠ s.heap.objs.size := Nat.ne_of_lt (Heap.lt_size hol)
  refine wpAny_pyIter_list hl ?_
  have W := Walks.list (prog := prog) (w := w) hh s.heap.objs.size l hne vs.toArray
  have hlen : vs.toArray.size = vs.length := by simp
  rw [hlen] at W
  refine loop_my M Ld cst J c₀ W ?_ ?_ ?_ ?_ hadr ⟨⟨_, Heap.get?_push_size _ rfl, rfl, rfl⟩, hl.at fun o e => Heap.get?_push_of_some _ e⟩ (F.push _) (fun p hp => ⟨Heap.get?_push_of_some _ (N p hp).1, (N p hp).2⟩) hj ?_ ?_
  · intro hm
    rcases List.mem_cons.mp hm with e | hm
    · exact absurd F.ns.lt (e ▸ Nat.lt_irrefl _)
    · exact hlL (List.mem_singleton.mp hm).symm
  · intro b hb
    rw [List.mem_singleton.mp hb]
    exact next_is_new F
  · intro p hp hI
    exact absurd (Heap.lt_size (N p hp).1) ((List.mem_singleton.mp hI) ▸ Nat.lt_irrefl _)
  · intro p hp hI
    rcases List.mem_cons.mp hI with e | hI
    · exact absurd (Heap.lt_size (N p (List.mem_append.mpr (.inl hp))).1) (e ▸ Nat.lt_irrefl _)
    · exact hlo (by rw [← hadr c₀, ← List.mem_singleton.mp hI]; exact List.mem_map_of_mem hp)
  · rintro i v c h tk own hi hP hJ hoff F₁ N₁
    exact turn i v c h tk own (by simpa using hP) hJ hoff F₁ N₁
  · exact done
/- for v in a tuple -/
theorem loop_tuple {σ : Type} {l : Addr} {vs : List Value} (M : σ → Str → Option Value) (Ld : σ → Led) (cst : Led) (J : Nat → σ → Prop) (c₀ : σ) {adr : List Addr}
    (hh : A.handled = none) (hl : s.heap.IsTuple l vs.toArray) (hlL : l ≠ env.locals) (hlo : l ∉ adr) (hadr : ∀ c, (Ld c).map (·.1) = adr) (F : Fr h₀ env.locals s.heap (M c₀)) (N : News h₀ env.locals s.heap (Ld c₀ ++ cst)) (hj : J 0 c₀)
    (turn : ∀ i v c h tk own, vs[i]? = some v → J i c → OwnOff own adr → Fr h₀ env.locals h (fun y => if y = x then some v else M c y) → News h₀ env.locals h (Ld c ++ (cst ++ own)) →
      wpAny (model prog w) A (execs body env) (LTurn M Ld (cst ++ own) x (J (i + 1)) h₀ env.locals Q { s with heap := h, toks := tk }) E { s with heap := h, toks := tk })
    (done : ∀ c u h tk, J vs.length c → Fr h₀ env.locals h (fun y => if y = x then u else M c y) → News h₀ env.locals h (Ld c ++ cst) → Q .next { s with heap := h, toks := tk }) :
    wpAny (model prog w) A (pyIter (.ref l)) (fun it s₂ => LoopAtV prog w A h₀ env x body Q E it s₂) E s := by
  obtain ⟨ol, hol, _⟩ := id hl
  have hne : l ≠ s.heap.objs.size := Nat.ne_of_lt (Heap.lt_size hol)
  refine wpAny_pyIter_tuple hl ?_
  have W := Walks.tuple (prog := prog) (w := w) hh s.heap.objs.size l hne vs.toArray
  have hlen : vs.toArray.size = vs.length := by simp
  rw [hlen] at W
  refine loop_my M Ld cst J c₀ W ?_ ?_ ?_ ?_ hadr ⟨⟨_, Heap.get?_push_size _ rfl, rfl, rfl⟩, hl.at fun o e => Heap.get?_push_of_some _ e⟩ (F.push _) (fun p hp => ⟨Heap.get?_push_of_some _ (N p hp).1, (N p hp).2⟩) hj ?_ ?_
  · intro hm
    rcases List.mem_cons.mp hm with e | hm
    · exact absurd F.ns.lt (e ▸ Nat.lt_irrefl _)
    · exact hlL (List.mem_singleton.mp hm).symm
  · intro b hb
    rw [List.mem_singleton.mp hb]
    exact next_is_new F
  · intro p hp hI
    exact absurd (Heap.lt_size (N p hp).1) ((List.mem_singleton.mp hI) ▸ Nat.lt_irrefl _)
  · intro p hp hI
    rcases List.mem_cons.mp hI with e | hI
    · exact absurd (Heap.lt_size (N p (List.mem_append.mpr (.inl hp))).1) (e ▸ Nat.lt_irrefl _)
    · exact hlo (by rw [← hadr c₀, ← List.mem_singleton.mp hI]; exact List.mem_map_of_mem hp)
  · rintro i v c h tk own hi hP hJ hoff F₁ N₁
    exact turn i v c h tk own (by simpa using hP) hJ hoff F₁ N₁
  · exact done
end

end
theorem tick_loop : True := by first | walk1 | trivial
section
variable {w : World} {loose : List Str} {mean : ExcName → Option Value} {mg mb : Str → Option Value}
noncomputable def lowN (n : Nat) : Nat := if 65 ≤ n ∧ n ≤ 90 then n + 32 else n
noncomputable def isUp (n : Nat) : Bool := decide (65 ≤ n ∧ n ≤ 90)
noncomputable def foldS (x : Str) : Str := ⟨x.cps.map lowN⟩

theorem lt1 (a b : Nat) : ([a] < [b]) ↔ a < b := by simp [List.cons_lt_cons_iff]
theorem cpsA : (Str.cps "A").toList = [65] := by decide
theorem cpsZ : (Str.cps "Z").toList = [90] := by decide

set_option maxRecDepth 100000 in
set_option maxHeartbeats 8000000 in
theorem d_is_upper (n : Nat) (t : Tok) : Does w loose mean mg mb 21 1 8 (fun _ => True) [.str ⟨#[n]⟩ t] (justV fun _ => .bool (isUp n)) := by
  unfold Does; k_fill; w_top off
  intro dp un gd cn cs a ccd cl outer A₀ base h₀ L m s B F X T hk hp hd hu
  refine' enter0 (binds := [(Str.ofString "c", .str ⟨#[n]⟩ t)]) ?dB ?dF ?dX ?dT ?dp ?dA ?df ?dke ?dof ?dcd ?droom ?dbind ?dloc ?_ ?c2 ?c3 ?c4 ?c5
  k_dflt (walk_at "d_entered")
  intro g' L' h' tk hp' F' N' B' X' T'
  (try dsimp only); k_fold
  k_steps
  all_goals (rename_i h1; refine endB (by k_asm) ?_; simp only [cpsA, cpsZ, lt1, isUp] at h1 ⊢; rw [Bool.eq_iff_iff]; simp; omega)

theorem up_bounds {n : Nat} (h : isUp n = true) : 65 ≤ n ∧ n ≤ 90 := of_decide_eq_true h
theorem up_not {n : Nat} (h : isUp n = false) : ¬ (65 ≤ n ∧ n ≤ 90) := of_decide_eq_false h
/- lower(c) -/
set_option maxRecDepth 100000 in
set_option maxHeartbeats 8000000 in
theorem d_lower (n : Nat) (t : Tok) : Does w loose mean mg mb 28 2 16 (fun _ => True) [.str ⟨#[n]⟩ t] (justV fun t => .str ⟨#[lowN n]⟩ t) := by
  unfold Does; k_fill; w_top off
  intro dp un gd cn cs a ccd cl outer A₀ base h₀ L m s B F X T hk hp hd hu
  refine' enter0 (binds := [(Str.ofString "c", .str ⟨#[n]⟩ t)]) ?dB ?dF ?dX ?dT ?dp ?dA ?df ?dke ?dof ?dcd ?droom ?dbind ?dloc ?_ ?c2 ?c3 ?c4 ?c5
  k_dflt (walk_at "d_entered")
  intro g' L' h' tk hp' F' N' B' X' T'
  (try dsimp only); k_fold
  (repeat' (first | with_reducible ((with_reducible show wpAny _ _ (call (Value.builtin "chr") _) _ _ _); ((have hb9 := up_bounds (by assumption)); refine chr_of_range (by omega) (by omega) ?_)) | with_reducible (k_here; (with_reducible show wpAny _ _ (call (Value.ref 21) _) _ _ _); k_dflt (refine Does.useV (d_is_upper _ _) (by k_asm) (by k_asm) (by k_asm) (by k_asm) (by k_asm) (by first | exact rfl | assumption) (by exact True.intro) (by ktr_room) (by ktr_units) ?_); intro t9 h9 tk9 F9 N9; (try dsimp only); (try k_fold)) | (k_unfold; (try dsimp only)) | (k_end; wrow_close) | walk1 | (dsimp only; walk1) | (leave1; (try dsimp only)) | fail "no step"))
  · refine endS (by k_asm) ?_
    have hb := up_bounds (by assumption)
    have e : lowN n = ((n : Int) + 32).toNat := by unfold lowN; rw [if_pos hb]; omega
    rw [e]
  · refine endS (by k_asm) ?_
    have hb := up_not (by assumption)
    have e : lowN n = n := by unfold lowN; rw [if_neg hb]
    rw [e]

end
theorem tick_lower : True := by first | walk1 | trivial
section
variable {w : World} {loose : List Str} {mean : ExcName → Option Value} {mg mb : Str → Option Value}
theorem join_chars (f : Nat → Nat) : ∀ l : List Nat, Str.join (Str.ofString "") (l.map fun n => (⟨#[f n]⟩ : Str)) = ⟨(l.map f).toArray⟩
  | [] => rfl
  | [a] => rfl
  | a :: b :: r => by
    have ih := join_chars f (b :: r)
    simp only [List.map_cons] at ih ⊢
    show (⟨#[f a]⟩ : Str) ++ Str.ofString "" ++ Str.join (Str.ofString "") _ = _
    rw [ih]
    refine PySem.Str.ext' (Array.toList_inj.mp ?_)
    rw [PySem.Str.cps_append, PySem.Str.cps_append]
    simp only [Array.toList_append]
    have e : (Str.ofString "").cps.toList = [] := by decide
    rw [e]; rfl
theorem weigh_chars (f : Nat → Nat) (l : List Nat) : ((l.map fun n => (⟨#[f n]⟩ : Str)).map (·.length)).sum + (l.map fun n => (⟨#[f n]⟩ : Str)).length = 2 * l.length := by
  induction l with
  | nil => rfl
  | cons a r ih => simp only [List.map_cons, List.sum_cons, List.length_cons] at ih ⊢; have : (⟨#[f a]⟩ : Str).length = 1 := rfl; omega
theorem fold_chars (x : Str) : (⟨((x.cps.toList.take x.cps.size).map lowN).toArray⟩ : Str) = foldS x := by
  refine PySem.Str.ext' (Array.toList_inj.mp ?_)
  rw [List.take_of_length_le (by simp)]
  simp [foldS]
theorem map_step {f : Int → Str} {pre : List Int} {out : List Str} {n : Int} {y : Str} (h : out = pre.map f) (e : y = f n) : out ++ [y] = (pre ++ [n]).map f := by rw [h, e, List.map_append]; rfl
/- lower_text(text) -/
set_option maxRecDepth 100000 in
set_option maxHeartbeats 8000000 in
theorem d_lower_text (x : Str) (t : Tok) (hx : x.cps.size ≤ 1000) : Does w loose mean mg mb 35 3 24 (fun _ => True) [.str x t] (justV fun t => .str (foldS x) t) := by
  unfold Does; k_fill; w_top off
  intro dp un gd cn cs a ccd cl outer A₀ base h₀ L m s B F X T hk hp hd hu
  refine' enter0 (binds := [(Str.ofString "text", .str x t)]) ?dB ?dF ?dX ?dT ?dp ?dA ?df ?dke ?dof ?dcd ?droom ?dbind ?dloc ?_ ?c2 ?c3 ?c4 ?c5
  k_dflt (walk_at "d_entered")
  intro g' L' h' tk hp' F' N' B' X' T'
  (try dsimp only); k_fold
  iterate 8 (first | with_reducible (k_here; (with_reducible show wpAny _ _ (call (Value.ref 28) _) _ _ _); k_dflt (refine Does.useV (d_lower _ _) (by k_asm) (by k_asm) (by k_asm) (by k_asm) (by k_asm) (by first | exact rfl | assumption) (by exact True.intro) (by ktr_room) (by ktr_units) ?_); intro t9 h9 tk9 F9 N9; (try dsimp only); (try k_fold)) | with_reducible (k_here; (with_reducible show wpAny _ _ (call (Value.builtin _) [Value.str _ _, Value.ref _]) _ _ _); k_dflt (refine join_listW (by is_list) (by assumption) (by decide +kernel) (by assumption) ?_); intro _ _) | walk1)
  walk_at "d_for"
  (first | with_reducible (k_here; (with_reducible show wpAny _ _ (call (Value.ref 28) _) _ _ _); k_dflt (refine Does.useV (d_lower _ _) (by k_asm) (by k_asm) (by k_asm) (by k_asm) (by k_asm) (by first | exact rfl | assumption) (by exact True.intro) (by ktr_room) (by ktr_units) ?_); intro t9 h9 tk9 F9 N9; (try dsimp only); (try k_fold)) | with_reducible (k_here; (with_reducible show wpAny _ _ (call (Value.builtin _) [Value.str _ _, Value.ref _]) _ _ _); k_dflt (refine join_listW (by is_list) (by assumption) (by decide +kernel) (by assumption) ?_); intro _ _) | walk1)
  rename_i l1 h1 hl h2 F2 N2
  refine loop_str (σ := Array Value × Nat) (xt := x) (fun _ => _) (fun c => [(l1, listOf c.1 c.2)]) [] (fun i c => StrsAre c.1.toList ((x.cps.toList.take i).map fun n => ⟨#[lowN n]⟩)) (#[], 0) (adr := [l1]) rfl (fun _ => rfl) F2 N2 (by exact StrsAre.nil) ?_ ?_
  · intro i n t c h3 tk3 own hn hJ hoff F3 N3
    change Fr g' L' h3 _ at F3; change News g' L' h3 _ at N3; clear F2 N2
    (try simp only [List.nil_append, List.cons_append] at N3)
    (try dsimp only); k_fold
    have hlen : c.1.size ≤ 1000 := by have := hJ.length; simp at this; omega
    (repeat' (first | with_reducible (k_here; (with_reducible show wpAny _ _ (call (Value.ref 28) _) _ _ _); k_dflt (refine Does.useV (d_lower _ _) (by k_asm) (by k_asm) (by k_asm) (by k_asm) (by k_asm) (by first | exact rfl | assumption) (by exact True.intro) (by ktr_room) (by ktr_units) ?_); intro t9 h9 tk9 F9 N9; (try dsimp only); (try k_fold)) | with_reducible (k_here; (with_reducible show wpAny _ _ (call (Value.builtin _) [Value.str _ _, Value.ref _]) _ _ _); k_dflt (refine join_listW (by is_list) (by assumption) (by decide +kernel) (by assumption) ?_); intro _ _) | (k_unfold; (try dsimp only)) | (k_end; wrow_close) | walk1 | (dsimp only; walk1) | (leave1; (try dsimp only)) | fail "no step"))
    (rename Fr _ _ _ _ => F9); (rename News _ _ _ _ => N9)
    refine LTurn.next (_, _) F9 N9 (List.forall_mem_singleton.mpr (List.Mem.head _)) (by intro p hp; simp only [List.nil_append] at hp; exact List.mem_cons_of_mem _ hp) (fun y hy => by simp only [if_neg hy]) ?_
    have e : (x.cps.toList.take (i + 1)).map (fun n => (⟨#[lowN n]⟩ : Str)) = (x.cps.toList.take i).map (fun n => ⟨#[lowN n]⟩) ++ [⟨#[lowN n]⟩] := by
      rw [List.take_add_one, Array.getElem?_toList, hn]; simp
    show StrsAre (List.concat _ _) _
    rw [e, List.concat_eq_append]; exact hJ.append' (.cons _ _ .nil)
  · intro c u h3 tk3 hJ F3 N3
    change Fr g' L' h3 _ at F3; change News g' L' h3 _ at N3; clear F2 N2
    (try simp only [List.nil_append, List.cons_append] at N3)
    (try dsimp only); (try k_fold)
    have hlen : c.1.size ≤ 1000 := by have := hJ.length; simp at this; omega
    have hw : (((x.cps.toList.take x.cps.size).map fun n => (⟨#[lowN n]⟩ : Str)).map (·.length)).sum + ((x.cps.toList.take x.cps.size).map fun n => (⟨#[lowN n]⟩ : Str)).length ≤ 1048576 := by
      rw [weigh_chars]; simp; omega
    (repeat' (first | with_reducible (k_here; (with_reducible show wpAny _ _ (call (Value.ref 28) _) _ _ _); k_dflt (refine Does.useV (d_lower _ _) (by k_asm) (by k_asm) (by k_asm) (by k_asm) (by k_asm) (by first | exact rfl | assumption) (by exact True.intro) (by ktr_room) (by ktr_units) ?_); intro t9 h9 tk9 F9 N9; (try dsimp only); (try k_fold)) | with_reducible (k_here; (with_reducible show wpAny _ _ (call (Value.builtin _) [Value.str _ _, Value.ref _]) _ _ _); k_dflt (refine join_listW (by is_list) (by assumption) (by decide +kernel) (by assumption) ?_); intro _ _) | (k_unfold; (try dsimp only)) | (k_end; wrow_close) | walk1 | (dsimp only; walk1) | (leave1; (try dsimp only)) | fail "no step"))
    refine endS (by k_asm) ?_
    refine ((StrLaws.glued_eq_join _ _).trans (join_chars lowN _)).trans (fold_chars x)

end
theorem tick_lower_text : True := by first | walk1 | trivial
section
variable {w : World} {loose : List Str} {mean : ExcName → Option Value} {mg mb : Str → Option Value}
theorem frame_cast {h₀ h : Heap} {L : Addr} {m m' : Str → Option Value} (F : Fr h₀ L h m) (e : ∀ y, m y = m' y) : Fr h₀ L h m' := (funext e : m = m') ▸ F
theorem chr_down {n : Nat} (h1 : ¬ (⟨#[n]⟩ : Str).cps.toList < (Str.cps "a").toList) (h2 : ¬ (Str.cps "z").toList < (⟨#[n]⟩ : Str).cps.toList) : 97 ≤ n ∧ n ≤ 122 := by
  have ea : (Str.cps "a").toList = [97] := by decide
  have ez : (Str.cps "z").toList = [122] := by decide
  simp only [ea, ez, lt1] at h1 h2
  omega
theorem chars_step {vs : Array Value} {ns : List Nat} {i n : Nat} {t : Tok} (hl : ns.length = i) (h : StrsAre vs.toList (ns.map fun n => (⟨#[n]⟩ : Str))) :
    ∃ ns' : List Nat, ns'.length = i + 1 ∧ StrsAre (vs.toList.concat (.str ⟨#[n]⟩ t)) (ns'.map fun n => (⟨#[n]⟩ : Str)) :=
  ⟨ns ++ [n], by simp [hl], by rw [List.map_append, List.concat_eq_append]; exact h.append' (.cons _ _ .nil)⟩
/- _law_cased(text, bits) -/
set_option maxRecDepth 100000 in
set_option maxHeartbeats 8000000 in
theorem d_cased (x : Str) (t : Tok) (b : Int) (tb : Tok) (hx : x.cps.size ≤ 1000) : Does w loose mean mg mb 119 1 8 (fun _ => True) [.str x t, .int b tb] (fun tl r => tl = [] ∧ ∃ y t, r = .str y t ∧ y.cps.size = x.cps.size) := by
  unfold Does; k_fill; w_top off
  intro dp un gd cn cs a ccd cl outer A₀ base h₀ L m s B F X T hk hp hd hu
  refine' enter0 (binds := [(Str.ofString "text", .str x t), (Str.ofString "bits", .int b tb)]) ?dB ?dF ?dX ?dT ?dp ?dA ?df ?dke ?dof ?dcd ?droom ?dbind ?dloc ?_ ?c2 ?c3 ?c4 ?c5
  k_dflt (walk_at "d_entered")
  intro g' L' h' tk hp' F' N' B' X' T'
  (try dsimp only); k_fold
  iterate 8 (first | with_reducible (k_here; (with_reducible show wpAny _ _ (call (Value.builtin _) [Value.str _ _, Value.ref _]) _ _ _); k_dflt (refine join_listW (by is_list) (by assumption) (by decide +kernel) (by assumption) ?_); intro _ _) | with_reducible ((with_reducible show wpAny _ _ (call (Value.builtin "chr") _) _ _ _); ((have hz9 := chr_down (by assumption) (by assumption)); refine chr_of_range (by omega) (by omega) ?_)) | walk1)
  walk_at "d_for"
  (first | with_reducible (k_here; (with_reducible show wpAny _ _ (call (Value.builtin _) [Value.str _ _, Value.ref _]) _ _ _); k_dflt (refine join_listW (by is_list) (by assumption) (by decide +kernel) (by assumption) ?_); intro _ _) | with_reducible ((with_reducible show wpAny _ _ (call (Value.builtin "chr") _) _ _ _); ((have hz9 := chr_down (by assumption) (by assumption)); refine chr_of_range (by omega) (by omega) ?_)) | walk1)
  rename_i l1 h1 hl h2 F2 N2
  have F3 := frame_cast (m' := fun y => if y = Str.ofString "bits" then some (.int b tb) else if y = Str.ofString "out" then some (.ref l1) else if y = Str.ofString "text" then some (.str x t) else none) F2 (by
    intro y
    by_cases e1 : y = Str.ofString "bits"
    · subst e1; rfl
    by_cases e2 : y = Str.ofString "out"
    · subst e2; rfl
    by_cases e3 : y = Str.ofString "text"
    · subst e3; rfl
    simp [e1, e2, e3, List.lookup, beq_false_of_ne e1, beq_false_of_ne e3])
  clear F2
  refine loop_str (σ := Array Value × Nat × Int × Tok) (xt := x) (fun c y => if y = Str.ofString "bits" then some (.int c.2.2.1 c.2.2.2) else if y = Str.ofString "out" then some (.ref l1) else if y = Str.ofString "text" then some (.str x t) else none) (fun c => [(l1, listOf c.1 c.2.1)]) [] (fun i c => ∃ ns : List Nat, ns.length = i ∧ StrsAre c.1.toList (ns.map fun n => ⟨#[n]⟩)) (#[], 0, b, tb) (adr := [l1]) rfl (fun _ => rfl) F3 N2 ⟨[], rfl, StrsAre.nil⟩ ?_ ?_
  · rintro i n t ⟨vs, k, b', tb'⟩ h3 tk3 own hn ⟨ns, hl, hJ⟩ hoff F4 N4
    change Fr g' L' h3 _ at F4; change News g' L' h3 _ at N4; clear F3 N2
    (try simp only [List.nil_append, List.cons_append] at N4)
    (try dsimp only); k_fold
    have hlen : vs.size ≤ 1000 := by have := hJ.length; simp at this; have := (Array.getElem?_eq_some_iff.mp hn).1; omega
    (repeat' (first | with_reducible (k_here; (with_reducible show wpAny _ _ (call (Value.builtin _) [Value.str _ _, Value.ref _]) _ _ _); k_dflt (refine join_listW (by is_list) (by assumption) (by decide +kernel) (by assumption) ?_); intro _ _) | with_reducible ((with_reducible show wpAny _ _ (call (Value.builtin "chr") _) _ _ _); ((have hz9 := chr_down (by assumption) (by assumption)); refine chr_of_range (by omega) (by omega) ?_)) | (k_unfold; (try dsimp only)) | (k_end; wrow_close) | walk1 | (dsimp only; walk1) | (leave1; (try dsimp only)) | fail "no step"))
    all_goals (
      (rename Fr _ _ _ _ => F9); (rename News _ _ _ _ => N9)
      refine LTurn.next (_, _, _, _) F9 N9 (List.forall_mem_singleton.mpr (List.Mem.head _)) (by intro p hp; simp only [List.nil_append] at hp; exact List.mem_cons_of_mem _ hp) (fun y hy => by
        by_cases e : y = Str.ofString "bits"
        · subst e; rfl
        · simp [e, hy]) ?_
      exact chars_step hl hJ)
  · rintro ⟨vs, k, b', tb'⟩ u h3 tk3 ⟨ns, hl, hJ⟩ F4 N4
    change Fr g' L' h3 _ at F4; change News g' L' h3 _ at N4; clear F3 N2
    (try simp only [List.nil_append, List.cons_append] at N4)
    (try dsimp only); (try k_fold)
    have hw : ((ns.map fun n => (⟨#[n]⟩ : Str)).map (·.length)).sum + (ns.map fun n => (⟨#[n]⟩ : Str)).length ≤ 1048576 := by
      rw [weigh_chars (fun n => n)]; omega
    (repeat' (first | with_reducible (k_here; (with_reducible show wpAny _ _ (call (Value.builtin _) [Value.str _ _, Value.ref _]) _ _ _); k_dflt (refine join_listW (by is_list) (by assumption) (by decide +kernel) (by assumption) ?_); intro _ _) | with_reducible ((with_reducible show wpAny _ _ (call (Value.builtin "chr") _) _ _ _); ((have hz9 := chr_down (by assumption) (by assumption)); refine chr_of_range (by omega) (by omega) ?_)) | (k_unfold; (try dsimp only)) | (k_end; wrow_close) | walk1 | (dsimp only; walk1) | (leave1; (try dsimp only)) | fail "no step"))
    refine endO (by k_asm) News.nil ⟨rfl, _, _, rfl, ?_⟩
    rw [show Txt.join (Str.ofString "") (ns.map fun n => (⟨#[n]⟩ : Str)) = _ from (StrLaws.glued_eq_join _ _).trans (join_chars (fun n => n) ns)]
    simp [hl]

end
theorem tick_cased : True := by first | walk1 | trivial
section
variable {w : World} {loose : List Str} {mean : ExcName → Option Value} {mg mb : Str → Option Value}
section
variable {prog : Program} {A : Around} {E : Value → Shared → Prop} {s : Shared} {h₀ : Heap} {L : Addr} {m : Str → Option Value} {env : Env}
theorem striter_st {x : Str} {t : Tok} {I : Addr} {T : String} : ∀ i (h h' : Heap) (o : Obj) (nw : Led), h.IsStrIter I T x t i → h.get? I = some o → h'.get? I = some o → (∀ b o, h₀.get? b = some o → h'.get? b = some o) → News h₀ L h' nw → True → h'.IsStrIter I T x t i :=
  fun i h h' o nw st e e' _ _ _ => by
    obtain ⟨o', q, r⟩ := st
    rw [e] at q; cases q
    exact ⟨o, e', r⟩
/- a comprehension over a text's signs -/
theorem ListComp_text {elt iter : Expr} {x : Str} {px : Pos} {scope : Scope} {cl : List (Str × Addr)} {pos : Pos} {Q : Value → Shared → Prop} (F₀ : Fr h₀ L s.heap m)
    (hclos : closureFor scope env = pure cl) (hcell : ∀ y ∈ scope.names, y.2 ≠ .cell) (hkind : scope.kind = .function)
    (hnames : ∀ y ∈ scope.names, y.2 = .local → scope.names.lookup y.1 = some .local) (hx : scope.names.lookup x = some .local)
    (h : wpAny (model prog w) A (eval iter env) (fun xv s₁ => ∃ xt tx news, xv = .str xt tx ∧ A.handled = none ∧ Fr h₀ L s₁.heap m ∧ News h₀ L s₁.heap news ∧ xt.cps.size ≤ sizeLine ∧
      ∀ s₂ : Shared, (∃ h, s₂ = { s₁ with heap := h }) → LCg.CompRest prog w A h₀ L m env elt x scope cl s₂ (fun _ => True) (SignAt xt) (LCg.FinE h₀ L m s₂ Q) xt.cps.size 0 [] news) E s)
    (hs : ∀ x, foldedSetIterable iter env x = pure x := by intro _; rfl) :
    wpAny (model prog w) A (eval (.ListComp elt [⟨.Name x px, iter, [], 0⟩] scope pos) env) Q E s := by
  rw [eval_ListComp]
  refine wpAny_comprehension_free (use := none) rfl hs hclos hkind hnames (wpAny_mono h (fun xv s₁ h₁ => ?_) fun _ _ e => e)
  obtain ⟨xt, tx, news, rfl, hh, F, N, hsz, R⟩ := h₁
  cases ha : xt.cps.all (· < 128)
  · refine wpAny_pyIter_wide ha ?_
    refine LCg.block_U (Walks.strWide hh s₁.heap.objs.size xt tx) hsz (fun i h st => by obtain ⟨o, e, _⟩ := st; exact ⟨o, e⟩) striter_st hcell hkind hx ⟨_, Heap.get?_push_size _ rfl, rfl, rfl⟩ (fun b hb => ?_)
      (F.keeps fun _ _ e => Heap.get?_push_of_some _ e) (N.grown fun _ _ e => Heap.get?_push_of_some _ e) (Nat.ne_of_lt F.ns.lt) (next_is_new F) (fun p hp => Nat.ne_of_lt (Heap.lt_size (N p hp).1)) trivial (R _ ⟨_, rfl⟩) ?_
    · rw [List.mem_singleton.mp hb]
      show s₁.heap.objs.size < (s₁.heap.push _).objs.size
      rw [Heap.size_push]; exact Nat.lt_succ_self _
    · intro D C h tk m' ys news' F' N' o1 hn hC₀ hD₀ hCL hDL hCD offC fin
      refine ⟨m', hn, fun h'' hs'' => fin D h'' tk (F'.change hs'' hCL hC₀) (fun p hp => ?_) o1⟩
      refine ⟨hs''.extBut _ _ ?_ (N' p hp).1, (N' p hp).2⟩
      rcases List.mem_cons.mp hp with rfl | hp
      · exact Ne.symm hCD
      · exact offC p hp
  · refine wpAny_pyIter_ascii ha ?_
    refine LCg.block_U (Walks.strAscii hh s₁.heap.objs.size xt tx) hsz (fun i h st => by obtain ⟨o, e, _⟩ := st; exact ⟨o, e⟩) striter_st hcell hkind hx ⟨_, Heap.get?_push_size _ rfl, rfl, rfl⟩ (fun b hb => ?_)
      (F.keeps fun _ _ e => Heap.get?_push_of_some _ e) (N.grown fun _ _ e => Heap.get?_push_of_some _ e) (Nat.ne_of_lt F.ns.lt) (next_is_new F) (fun p hp => Nat.ne_of_lt (Heap.lt_size (N p hp).1)) trivial (R _ ⟨_, rfl⟩) ?_
    · rw [List.mem_singleton.mp hb]
      show s₁.heap.objs.size < (s₁.heap.push _).objs.size
      rw [Heap.size_push]; exact Nat.lt_succ_self _
    · intro D C h tk m' ys news' F' N' o1 hn hC₀ hD₀ hCL hDL hCD offC fin
      refine ⟨m', hn, fun h'' hs'' => fin D h'' tk (F'.change hs'' hCL hC₀) (fun p hp => ?_) o1⟩
      refine ⟨hs''.extBut _ _ ?_ (N' p hp).1, (N' p hp).2⟩
      rcases List.mem_cons.mp hp with rfl | hp
      · exact Ne.symm hCD
      · exact offC p hp
def TxEl (news : Led) (r : Str) (y : Value) (news' : Led) : Prop := news' = news ∧ ∃ t : Tok, y = .str r t
theorem TxEl.of {news : Led} {r r' : Str} {t : Tok} (e : r = r') : TxEl news r' (.str r t) news := by subst e; exact ⟨rfl, t, rfl⟩
theorem comp_texts {elt : Expr} {x : Str} {scope : Scope} {cl : List (Str × Addr)} {S : Led → Prop} {Fin : List Value → Led → Prop} {news : Led} {xt : Str} (g : Nat → Str)
    (turn : ∀ n t I oI C oC D m₂ ys h tk (E' : Value → Shared → Prop), LCg.NsObj oC m₂ → m₂ x = some (.str ⟨#[n]⟩ t) → Fr h₀ L h m → News h₀ L h ((I, oI) :: (C, oC) :: (D, LCg.lst ys) :: news) → LCg.Off3 I C D news → ((@Ne Nat I C) ∧ (@Ne Nat I D) ∧ (@Ne Nat C D)) →
      wpAny (model prog w) A (eval elt (compEnvC scope cl C env)) (LCg.CompEnd h₀ L m { s with heap := h, toks := tk } I oI C oC D (LCg.lst ys) S (fun y news' => TxEl news (g n) y news')) E' { s with heap := h, toks := tk })
    (fin : ∀ ys, StrsAre ys (xt.cps.toList.map g) → Fin ys news) : LCg.CompRest prog w A h₀ L m env elt x scope cl s S (SignAt xt) Fin xt.cps.size 0 [] news := by
  have key : ∀ (j i : Nat) (ys : List Value), i + j = xt.cps.size → StrsAre ys ((xt.cps.toList.take i).map g) → LCg.CompRest prog w A h₀ L m env elt x scope cl s S (SignAt xt) Fin j i ys news := by
    intro j
    induction j with
    | zero =>
      intro i ys hi hy
      rw [List.take_of_length_le (by simp; omega)] at hy
      exact LCg.CompRest.zero (fin ys hy)
    | succ j ih =>
      intro i ys hi hy
      refine LCg.CompRest.succ ?_
      intro v I oI C oC D m₂ h tk E' hv hC hx F N off ne
      obtain ⟨n, t, hn, rfl⟩ := hv
      refine wpAny_mono (turn n t I oI C oC D m₂ ys h tk E' hC hx F N off ne) (fun y s₂ hq => ?_) fun _ _ e => e
      obtain ⟨h', tk', nw, e, F', N', off', hS, hn', t', rfl⟩ := hq
      subst hn'
      refine ⟨h', tk', nw, e, F', N', off', hS, ?_⟩
      refine ih (i + 1) _ (by omega) ?_
      rw [List.take_add_one, Array.getElem?_toList, hn, List.map_append]
      exact hy.append' (.cons _ _ .nil)
  exact key xt.cps.size 0 [] (by omega) .nil
end
theorem chr_up {n : Nat} (h1 : ¬ (⟨#[n]⟩ : Str).cps.toList < (Str.cps "A").toList) (h2 : ¬ (Str.cps "Z").toList < (⟨#[n]⟩ : Str).cps.toList) : 65 ≤ n ∧ n ≤ 90 := by
  simp only [cpsA, cpsZ, lt1] at h1 h2
  omega
theorem low_up {n : Nat} (h : 65 ≤ n ∧ n ≤ 90) : ((n : Int) + 32).toNat = lowN n := by unfold lowN; rw [if_pos h]; omega
theorem low_small {n : Nat} (h : (⟨#[n]⟩ : Str).cps.toList < (Str.cps "A").toList) : n = lowN n := by
  simp only [cpsA, lt1] at h
  unfold lowN; rw [if_neg]; omega
theorem low_big {n : Nat} (h : (Str.cps "Z").toList < (⟨#[n]⟩ : Str).cps.toList) : n = lowN n := by
  simp only [cpsZ, lt1] at h
  unfold lowN; rw [if_neg]; omega
/- _law_fold(text) -/
set_option maxRecDepth 100000 in
set_option maxHeartbeats 8000000 in
theorem d_fold (x : Str) (t : Tok) (hx : x.cps.size ≤ 1000) : Does w loose mean mg mb 138 1 8 (fun _ => True) [.str x t] (justV fun t => .str (foldS x) t) := by
  unfold Does; k_fill; w_top off
  intro dp un gd cn cs a ccd cl outer A₀ base h₀ L m s B F X T hk hp hd hu
  refine' enter0 (binds := [(Str.ofString "text", .str x t)]) ?dB ?dF ?dX ?dT ?dp ?dA ?df ?dke ?dof ?dcd ?droom ?dbind ?dloc ?_ ?c2 ?c3 ?c4 ?c5
  k_dflt (walk_at "d_entered")
  intro g' L' h' tk hp' F' N' B' X' T'
  (try dsimp only); k_fold
  iterate 7 (first | with_reducible (k_here; (with_reducible show wpAny _ _ (call (Value.builtin _) [Value.str _ _, Value.ref _]) _ _ _); k_dflt (refine join_listW (by is_list) (by assumption) (by decide +kernel) (by assumption) ?_); intro _ _) | with_reducible ((with_reducible show wpAny _ _ (call (Value.builtin "chr") _) _ _ _); ((have hz9 := chr_up (by assumption) (by assumption)); refine chr_of_range (by omega) (by omega) ?_)) | walk1)
  k_dflt (refine ListComp_text (F₀ := by k_asm) (by with_unfolding_all rfl) (by decide) (by rfl) (by decide) (by rfl) ?_)
  (first | with_reducible (k_here; (with_reducible show wpAny _ _ (call (Value.builtin _) [Value.str _ _, Value.ref _]) _ _ _); k_dflt (refine join_listW (by is_list) (by assumption) (by decide +kernel) (by assumption) ?_); intro _ _) | with_reducible ((with_reducible show wpAny _ _ (call (Value.builtin "chr") _) _ _ _); ((have hz9 := chr_up (by assumption) (by assumption)); refine chr_of_range (by omega) (by omega) ?_)) | walk1)
  refine ⟨x, t, [], rfl, rfl, by k_asm, by k_asm, by rw [sizeLine_eq]; omega, ?_⟩
  rintro _ ⟨g2, rfl⟩
  refine comp_texts (fun n => ⟨#[lowN n]⟩) ?_ ?_
  · intro n tn I oI C oC D m₂ ys h3 tk3 E' hC hx2 F3 N3 off ne
    (try dsimp only); k_fold
    (repeat' (first | with_reducible (k_here; (with_reducible show wpAny _ _ (call (Value.builtin _) [Value.str _ _, Value.ref _]) _ _ _); k_dflt (refine join_listW (by is_list) (by assumption) (by decide +kernel) (by assumption) ?_); intro _ _) | with_reducible ((with_reducible show wpAny _ _ (call (Value.builtin "chr") _) _ _ _); ((have hz9 := chr_up (by assumption) (by assumption)); refine chr_of_range (by omega) (by omega) ?_)) | (k_unfold; (try dsimp only)) | (k_end; wrow_close) | walk1 | (dsimp only; walk1) | (leave1; (try dsimp only)) | fail "no step"))
    · exact TxEl.of (congrArg (fun k => (⟨#[k]⟩ : Str)) (low_small (by assumption)))
    · exact TxEl.of (congrArg (fun k => (⟨#[k]⟩ : Str)) (low_big (by assumption)))
    · exact TxEl.of (congrArg (fun k => (⟨#[k]⟩ : Str)) (low_up (by assumption)))
  · intro ys hys
    intro D h3 tk3 F3 N3 off
    have hw : ((x.cps.toList.map fun n => (⟨#[lowN n]⟩ : Str)).map (·.length)).sum + (x.cps.toList.map fun n => (⟨#[lowN n]⟩ : Str)).length ≤ 1048576 := by
      rw [weigh_chars]; simp; omega
    (repeat' (first | with_reducible (k_here; (with_reducible show wpAny _ _ (call (Value.builtin _) [Value.str _ _, Value.ref _]) _ _ _); k_dflt (refine join_listW (by is_list) (by assumption) (by decide +kernel) (by assumption) ?_); intro _ _) | with_reducible ((with_reducible show wpAny _ _ (call (Value.builtin "chr") _) _ _ _); ((have hz9 := chr_up (by assumption) (by assumption)); refine chr_of_range (by omega) (by omega) ?_)) | (k_unfold; (try dsimp only)) | (k_end; wrow_close) | walk1 | (dsimp only; walk1) | (leave1; (try dsimp only)) | fail "no step"))
    refine endS (by k_asm) ?_
    refine ((StrLaws.glued_eq_join _ _).trans (join_chars lowN _)).trans ?_
    have e := fold_chars x
    rwa [List.take_of_length_le (by simp)] at e

end
theorem tick_fold : True := by first | walk1 | trivial
section
variable {w : World} {loose : List Str} {mean : ExcName → Option Value} {mg mb : Str → Option Value}
/- an object of the ledger: a list (a tuple) of texts -/
noncomputable abbrev tupObj (vs : Array Value) (k : Nat) : Obj := { cls := .type "tuple", data := .seq vs k }
def ListTx (ss : List Str) (tl : Led) (r : Value) : Prop := ∃ l vs k, r = .ref l ∧ tl = [(l, listOf vs k)] ∧ StrsAre vs.toList ss
def TupTx (ss : List Str) (tl : Led) (r : Value) : Prop := ∃ l vs k, r = .ref l ∧ tl = [(l, tupObj vs k)] ∧ StrsAre vs.toList ss
noncomputable def ibmS : Str := Str.ofString "http://www.ibm.com/data/dtd/v11/ibmxhtml1-transitional.dtd"
noncomputable def wholesL : List Str := [Str.ofString "-//w3o//dtd w3 html strict 3.0//en//", Str.ofString "-/w3c/dtd html 4.0 transitional/en", Str.ofString "html"]
noncomputable def looseL : List Str := [Str.ofString "-//w3c//dtd html 4.01 frameset//", Str.ofString "-//w3c//dtd html 4.01 transitional//"]
noncomputable def alwaysL : List Str := [Str.ofString "-//w3c//dtd xhtml 1.0 frameset//", Str.ofString "-//w3c//dtd xhtml 1.0 transitional//"]
set_option maxRecDepth 100000 in
set_option maxHeartbeats 8000000 in
theorem d_ibm : Does w loose mean mg mb 112 1 8 (fun _ => True) [] (justV fun t => .str ibmS t) := by
  unfold Does; k_fill; w_top off
  intro dp un gd cn cs a ccd cl outer A₀ base h₀ L m s B F X T hk hp hd hu
  refine' enter0 (binds := []) ?dB ?dF ?dX ?dT ?dp ?dA ?df ?dke ?dof ?dcd ?droom ?dbind ?dloc ?_ ?c2 ?c3 ?c4 ?c5
  k_dflt (walk_at "d_entered")
  intro g' L' h' tk hp' F' N' B' X' T'
  (try dsimp only); k_fold
  k_steps
  exact endS (by k_asm) rfl
set_option maxRecDepth 100000 in
set_option maxHeartbeats 8000000 in
theorem d_wholes : Does w loose mean mg mb 105 1 8 (fun _ => True) [] (ListTx wholesL) := by
  unfold Does; k_fill; w_top off
  intro dp un gd cn cs a ccd cl outer A₀ base h₀ L m s B F X T hk hp hd hu
  refine' enter0 (binds := []) ?dB ?dF ?dX ?dT ?dp ?dA ?df ?dke ?dof ?dcd ?droom ?dbind ?dloc ?_ ?c2 ?c3 ?c4 ?c5
  k_dflt (walk_at "d_entered")
  intro g' L' h' tk hp' F' N' B' X' T'
  (try dsimp only); k_fold
  k_steps
  exact endO (by k_asm) (by k_asm) ⟨_, _, _, rfl, rfl, .cons _ _ (.cons _ _ (.cons _ _ .nil))⟩
set_option maxRecDepth 100000 in
set_option maxHeartbeats 8000000 in
theorem d_loose : Does w loose mean mg mb 49 1 8 (fun _ => True) [] (TupTx looseL) := by
  unfold Does; k_fill; w_top off
  intro dp un gd cn cs a ccd cl outer A₀ base h₀ L m s B F X T hk hp hd hu
  refine' enter0 (binds := []) ?dB ?dF ?dX ?dT ?dp ?dA ?df ?dke ?dof ?dcd ?droom ?dbind ?dloc ?_ ?c2 ?c3 ?c4 ?c5
  k_dflt (walk_at "d_entered")
  intro g' L' h' tk hp' F' N' B' X' T'
  (try dsimp only); k_fold
  k_steps
  exact endO (by k_asm) (by k_asm) ⟨_, _, _, rfl, rfl, .cons _ _ (.cons _ _ .nil)⟩
set_option maxRecDepth 100000 in
set_option maxHeartbeats 8000000 in
theorem d_starts_with (x : Str) (t : Tok) (l : Addr) (vs : List Value) (ss : List Str) (hs : StrsAre vs ss) : Does w loose mean mg mb 63 1 8 (fun h => h.IsTuple l vs.toArray) [.str x t, .ref l] (justV fun _ => .bool (ss.any fun b => Txt.startswith x b)) := by
  unfold Does; k_fill; w_top off
  intro dp un gd cn cs a ccd cl outer A₀ base h₀ L m s B F X T hk hp hd hu
  refine' enter0 (binds := [(Str.ofString "text", .str x t), (Str.ofString "beginnings", .ref l)]) ?dB ?dF ?dX ?dT ?dp ?dA ?df ?dke ?dof ?dcd ?droom ?dbind ?dloc ?_ ?c2 ?c3 ?c4 ?c5
  k_dflt (walk_at "d_entered")
  intro g' L' h' tk hp' F' N' B' X' T'
  (try dsimp only); k_fold
  iterate 1 walk1
  walk_at "d_for"
  walk1
  (rename Fr _ _ _ _ => F2)
  have hlL : l ≠ L' := fun e => by
    obtain ⟨o, ho, _⟩ := hp'.out
    exact absurd (Heap.lt_size ho) (by rw [e]; exact Nat.not_lt.mpr F2.above)
  refine loop_tuple (σ := Unit) (vs := vs) (fun _ => _) (fun _ => []) [] (fun i _ => ∀ b ∈ ss.take i, Txt.startswith x b = false) () (adr := []) rfl (hp'.out.at fun o e => F2.keep _ _ e) hlL (fun h => nomatch h) (fun _ => rfl) F2 News.nil (fun _ h => nomatch h) ?_ ?_
  · intro i v c h3 tk3 own hv hJ hoff F3 N3
    obtain ⟨b, tb, rfl, hb⟩ := hs.item i v hv
    change Fr g' L' h3 _ at F3; change News g' L' h3 _ at N3; clear F2 N'
    (try simp only [List.nil_append, List.cons_append] at N3)
    (try dsimp only); k_fold
    k_steps
    · refine endB (g := g') F3 ?_
      rw [eq_comm, List.any_eq_true]
      exact ⟨b, List.mem_of_getElem? hb, by assumption⟩
    · refine LTurn.next () F3 N3 (fun _ h => nomatch h) (by intro p hp; simpa using hp) (fun y hy => by simp only [if_neg hy]) ?_
      intro z hz
      rw [List.take_add_one, hb] at hz
      rcases List.mem_append.mp hz with h | h
      · exact hJ z h
      · simp at h; subst h; assumption
  · intro c u h3 tk3 hJ F3 N3
    change Fr g' L' h3 _ at F3; change News g' L' h3 _ at N3; clear F2 N'
    (try simp only [List.nil_append, List.cons_append] at N3)
    (try dsimp only); (try k_fold)
    k_steps
    refine endB (by k_asm) ?_
    rw [hs.length, List.take_length] at hJ
    rw [eq_comm, List.any_eq_false]
    exact fun b hb => by rw [hJ b hb]; exact Bool.false_ne_true

end
theorem tick_small : True := by first | walk1 | trivial
section
variable {w : World} {loose : List Str} {mean : ExcName → Option Value} {mg mb : Str → Option Value}
noncomputable def pubRows : List Str := [Str.ofString "+//silmaril//dtd html pro v0r11 19970101|", Str.ofString "-//as//dtd html 3.0 aswedit + extensions|", Str.ofString "-//advasoft ltd//dtd html 3.0 aswedit + extensions|", Str.ofString "-//ietf//dtd html| 2.0 level 1| 2.0 level 2| 2.0 strict level 1| 2.0 strict level 2| 2.0 strict| 2.0| 2.1e", Str.ofString "-//ietf//dtd html| 3.0| 3.2 final| 3.2| 3| level 0| level 1| level 2| level 3|", Str.ofString "-//ietf//dtd html strict| level 0| level 1| level 2| level 3|", Str.ofString "-//metrius//dtd metrius presentational|", Str.ofString "-//microsoft//dtd internet explorer| 2.0 html strict| 2.0 html| 2.0 tables", Str.ofString "-//microsoft//dtd internet explorer| 3.0 html strict| 3.0 html| 3.0 tables", Str.ofString "-//netscape comm. corp.//dtd| html| strict html", Str.ofString "-//o'reilly and associates//dtd html| 2.0| extended 1.0| extended relaxed 1.0", Str.ofString "-//sq//dtd html 2.0 hotmetal + extensions|", Str.ofString "-//softquad software//dtd hotmetal pro 6.0::19990601::extensions to html 4.0|", Str.ofString "-//softquad//dtd hotmetal pro 4.0::19971010::extensions to html 4.0|", Str.ofString "-//spyglass//dtd html 2.0 extended|", Str.ofString "-//sun microsystems corp.//dtd| hotjava html| hotjava strict html", Str.ofString "-//w3c//dtd html| 3 1995-03-24| 3.2 draft| 3.2 final| 3.2| 3.2s draft| 4.0 frameset| 4.0 transitional", Str.ofString "-//w3c//dtd html experimental| 19960712| 970421", Str.ofString "-//w3c//dtd w3 html|", Str.ofString "-//w3o//dtd w3 html 3.0|", Str.ofString "-//webtechs//dtd mozilla html| 2.0|"]
noncomputable def knownRows : List (Str × Str) := [(Str.ofString "+//silmaril", Str.ofString "html pro v0r11 19970101"), (Str.ofString "-//as", Str.ofString "html 3.0 aswedit + extensions"), (Str.ofString "-//advasoft ltd", Str.ofString "html 3.0 aswedit + extensions"), (Str.ofString "-//ietf", Str.ofString "html,html 2.0,html 2.0 level 1,html 2.0 level 2,html 2.0 strict,html 2.0 strict level 1"), (Str.ofString "-//ietf", Str.ofString "html 2.0 strict level 2,html 2.1e,html 3,html 3.0,html 3.2,html 3.2 final,html level 0"), (Str.ofString "-//ietf", Str.ofString "html level 1,html level 2,html level 3,html strict,html strict level 0,html strict level 1"), (Str.ofString "-//ietf", Str.ofString "html strict level 2,html strict level 3"), (Str.ofString "-//metrius", Str.ofString "metrius presentational"), (Str.ofString "-//microsoft", Str.ofString "internet explorer 2.0 html,internet explorer 2.0 html strict,internet explorer 2.0 tables"), (Str.ofString "-//microsoft", Str.ofString "internet explorer 3.0 html,internet explorer 3.0 html strict,internet explorer 3.0 tables"), (Str.ofString "-//netscape comm. corp.", Str.ofString "html,strict html"), (Str.ofString "-//o'reilly and associates", Str.ofString "html 2.0,html extended 1.0,html extended relaxed 1.0"), (Str.ofString "-//softquad", Str.ofString "hotmetal pro 4.0::19971010::extensions to html 4.0"), (Str.ofString "-//softquad software", Str.ofString "hotmetal pro 6.0::19990601::extensions to html 4.0"), (Str.ofString "-//spyglass", Str.ofString "html 2.0 extended"), (Str.ofString "-//sq", Str.ofString "html 2.0 hotmetal + extensions"), (Str.ofString "-//sun microsystems corp.", Str.ofString "hotjava html,hotjava strict html"), (Str.ofString "-//w3c", Str.ofString "html 3 1995-03-24,html 3.2,html 3.2 draft,html 3.2 final,html 3.2s draft,html 4.0 frameset"), (Str.ofString "-//w3c", Str.ofString "html 4.0 transitional,html experimental 19960712,html experimental 970421,w3 html"), (Str.ofString "-//w3o", Str.ofString "w3 html 3.0"), (Str.ofString "-//webtechs", Str.ofString "mozilla html,mozilla html 2.0"), (Str.ofString "-//w3c", Str.ofString "html 4.01 frameset,html 4.01 transitional,xhtml 1.0 frameset,xhtml 1.0 transitional")]
noncomputable def bar : Str := Str.ofString "|"
noncomputable def comma : Str := Str.ofString ","
noncomputable def slashes : Str := Str.ofString "//"
noncomputable def dtd : Str := Str.ofString "//dtd "
noncomputable def pubOf (row : Str) : List Str := match Txt.split row bar with
  | [] => []
  | p :: ts => ts.map fun t => p ++ t ++ slashes
noncomputable def publicL : List Str := pubRows.flatMap pubOf
noncomputable def knownOf (r : Str × Str) : List Str := (Txt.split r.2 comma).map fun t => r.1 ++ dtd ++ t ++ slashes
noncomputable def knownL : List Str := knownRows.flatMap knownOf
-- the same over lists of numbers
noncomputable def tx (l : List Nat) : Str := ⟨l.toArray⟩
noncomputable def pubRowsN : List (List Nat) := [[43,47,47,115,105,108,109,97,114,105,108,47,47,100,116,100,32,104,116,109,108,32,112,114,111,32,118,48,114,49,49,32,49,57,57,55,48,49,48,49,124], [45,47,47,97,115,47,47,100,116,100,32,104,116,109,108,32,51,46,48,32,97,115,119,101,100,105,116,32,43,32,101,120,116,101,110,115,105,111,110,115,124], [45,47,47,97,100,118,97,115,111,102,116,32,108,116,100,47,47,100,116,100,32,104,116,109,108,32,51,46,48,32,97,115,119,101,100,105,116,32,43,32,101,120,116,101,110,115,105,111,110,115,124], [45,47,47,105,101,116,102,47,47,100,116,100,32,104,116,109,108,124,32,50,46,48,32,108,101,118,101,108,32,49,124,32,50,46,48,32,108,101,118,101,108,32,50,124,32,50,46,48,32,115,116,114,105,99,116,32,108,101,118,101,108,32,49,124,32,50,46,48,32,115,116,114,105,99,116,32,108,101,118,101,108,32,50,124,32,50,46,48,32,115,116,114,105,99,116,124,32,50,46,48,124,32,50,46,49,101], [45,47,47,105,101,116,102,47,47,100,116,100,32,104,116,109,108,124,32,51,46,48,124,32,51,46,50,32,102,105,110,97,108,124,32,51,46,50,124,32,51,124,32,108,101,118,101,108,32,48,124,32,108,101,118,101,108,32,49,124,32,108,101,118,101,108,32,50,124,32,108,101,118,101,108,32,51,124], [45,47,47,105,101,116,102,47,47,100,116,100,32,104,116,109,108,32,115,116,114,105,99,116,124,32,108,101,118,101,108,32,48,124,32,108,101,118,101,108,32,49,124,32,108,101,118,101,108,32,50,124,32,108,101,118,101,108,32,51,124], [45,47,47,109,101,116,114,105,117,115,47,47,100,116,100,32,109,101,116,114,105,117,115,32,112,114,101,115,101,110,116,97,116,105,111,110,97,108,124], [45,47,47,109,105,99,114,111,115,111,102,116,47,47,100,116,100,32,105,110,116,101,114,110,101,116,32,101,120,112,108,111,114,101,114,124,32,50,46,48,32,104,116,109,108,32,115,116,114,105,99,116,124,32,50,46,48,32,104,116,109,108,124,32,50,46,48,32,116,97,98,108,101,115], [45,47,47,109,105,99,114,111,115,111,102,116,47,47,100,116,100,32,105,110,116,101,114,110,101,116,32,101,120,112,108,111,114,101,114,124,32,51,46,48,32,104,116,109,108,32,115,116,114,105,99,116,124,32,51,46,48,32,104,116,109,108,124,32,51,46,48,32,116,97,98,108,101,115], [45,47,47,110,101,116,115,99,97,112,101,32,99,111,109,109,46,32,99,111,114,112,46,47,47,100,116,100,124,32,104,116,109,108,124,32,115,116,114,105,99,116,32,104,116,109,108], [45,47,47,111,39,114,101,105,108,108,121,32,97,110,100,32,97,115,115,111,99,105,97,116,101,115,47,47,100,116,100,32,104,116,109,108,124,32,50,46,48,124,32,101,120,116,101,110,100,101,100,32,49,46,48,124,32,101,120,116,101,110,100,101,100,32,114,101,108,97,120,101,100,32,49,46,48], [45,47,47,115,113,47,47,100,116,100,32,104,116,109,108,32,50,46,48,32,104,111,116,109,101,116,97,108,32,43,32,101,120,116,101,110,115,105,111,110,115,124], [45,47,47,115,111,102,116,113,117,97,100,32,115,111,102,116,119,97,114,101,47,47,100,116,100,32,104,111,116,109,101,116,97,108,32,112,114,111,32,54,46,48,58,58,49,57,57,57,48,54,48,49,58,58,101,120,116,101,110,115,105,111,110,115,32,116,111,32,104,116,109,108,32,52,46,48,124], [45,47,47,115,111,102,116,113,117,97,100,47,47,100,116,100,32,104,111,116,109,101,116,97,108,32,112,114,111,32,52,46,48,58,58,49,57,57,55,49,48,49,48,58,58,101,120,116,101,110,115,105,111,110,115,32,116,111,32,104,116,109,108,32,52,46,48,124], [45,47,47,115,112,121,103,108,97,115,115,47,47,100,116,100,32,104,116,109,108,32,50,46,48,32,101,120,116,101,110,100,101,100,124], [45,47,47,115,117,110,32,109,105,99,114,111,115,121,115,116,101,109,115,32,99,111,114,112,46,47,47,100,116,100,124,32,104,111,116,106,97,118,97,32,104,116,109,108,124,32,104,111,116,106,97,118,97,32,115,116,114,105,99,116,32,104,116,109,108], [45,47,47,119,51,99,47,47,100,116,100,32,104,116,109,108,124,32,51,32,49,57,57,53,45,48,51,45,50,52,124,32,51,46,50,32,100,114,97,102,116,124,32,51,46,50,32,102,105,110,97,108,124,32,51,46,50,124,32,51,46,50,115,32,100,114,97,102,116,124,32,52,46,48,32,102,114,97,109,101,115,101,116,124,32,52,46,48,32,116,114,97,110,115,105,116,105,111,110,97,108], [45,47,47,119,51,99,47,47,100,116,100,32,104,116,109,108,32,101,120,112,101,114,105,109,101,110,116,97,108,124,32,49,57,57,54,48,55,49,50,124,32,57,55,48,52,50,49], [45,47,47,119,51,99,47,47,100,116,100,32,119,51,32,104,116,109,108,124], [45,47,47,119,51,111,47,47,100,116,100,32,119,51,32,104,116,109,108,32,51,46,48,124], [45,47,47,119,101,98,116,101,99,104,115,47,47,100,116,100,32,109,111,122,105,108,108,97,32,104,116,109,108,124,32,50,46,48,124]]
noncomputable def knownRowsN : List (List Nat × List Nat) := [([43,47,47,115,105,108,109,97,114,105,108], [104,116,109,108,32,112,114,111,32,118,48,114,49,49,32,49,57,57,55,48,49,48,49]), ([45,47,47,97,115], [104,116,109,108,32,51,46,48,32,97,115,119,101,100,105,116,32,43,32,101,120,116,101,110,115,105,111,110,115]), ([45,47,47,97,100,118,97,115,111,102,116,32,108,116,100], [104,116,109,108,32,51,46,48,32,97,115,119,101,100,105,116,32,43,32,101,120,116,101,110,115,105,111,110,115]), ([45,47,47,105,101,116,102], [104,116,109,108,44,104,116,109,108,32,50,46,48,44,104,116,109,108,32,50,46,48,32,108,101,118,101,108,32,49,44,104,116,109,108,32,50,46,48,32,108,101,118,101,108,32,50,44,104,116,109,108,32,50,46,48,32,115,116,114,105,99,116,44,104,116,109,108,32,50,46,48,32,115,116,114,105,99,116,32,108,101,118,101,108,32,49]), ([45,47,47,105,101,116,102], [104,116,109,108,32,50,46,48,32,115,116,114,105,99,116,32,108,101,118,101,108,32,50,44,104,116,109,108,32,50,46,49,101,44,104,116,109,108,32,51,44,104,116,109,108,32,51,46,48,44,104,116,109,108,32,51,46,50,44,104,116,109,108,32,51,46,50,32,102,105,110,97,108,44,104,116,109,108,32,108,101,118,101,108,32,48]), ([45,47,47,105,101,116,102], [104,116,109,108,32,108,101,118,101,108,32,49,44,104,116,109,108,32,108,101,118,101,108,32,50,44,104,116,109,108,32,108,101,118,101,108,32,51,44,104,116,109,108,32,115,116,114,105,99,116,44,104,116,109,108,32,115,116,114,105,99,116,32,108,101,118,101,108,32,48,44,104,116,109,108,32,115,116,114,105,99,116,32,108,101,118,101,108,32,49]), ([45,47,47,105,101,116,102], [104,116,109,108,32,115,116,114,105,99,116,32,108,101,118,101,108,32,50,44,104,116,109,108,32,115,116,114,105,99,116,32,108,101,118,101,108,32,51]), ([45,47,47,109,101,116,114,105,117,115], [109,101,116,114,105,117,115,32,112,114,101,115,101,110,116,97,116,105,111,110,97,108]), ([45,47,47,109,105,99,114,111,115,111,102,116], [105,110,116,101,114,110,101,116,32,101,120,112,108,111,114,101,114,32,50,46,48,32,104,116,109,108,44,105,110,116,101,114,110,101,116,32,101,120,112,108,111,114,101,114,32,50,46,48,32,104,116,109,108,32,115,116,114,105,99,116,44,105,110,116,101,114,110,101,116,32,101,120,112,108,111,114,101,114,32,50,46,48,32,116,97,98,108,101,115]), ([45,47,47,109,105,99,114,111,115,111,102,116], [105,110,116,101,114,110,101,116,32,101,120,112,108,111,114,101,114,32,51,46,48,32,104,116,109,108,44,105,110,116,101,114,110,101,116,32,101,120,112,108,111,114,101,114,32,51,46,48,32,104,116,109,108,32,115,116,114,105,99,116,44,105,110,116,101,114,110,101,116,32,101,120,112,108,111,114,101,114,32,51,46,48,32,116,97,98,108,101,115]), ([45,47,47,110,101,116,115,99,97,112,101,32,99,111,109,109,46,32,99,111,114,112,46], [104,116,109,108,44,115,116,114,105,99,116,32,104,116,109,108]), ([45,47,47,111,39,114,101,105,108,108,121,32,97,110,100,32,97,115,115,111,99,105,97,116,101,115], [104,116,109,108,32,50,46,48,44,104,116,109,108,32,101,120,116,101,110,100,101,100,32,49,46,48,44,104,116,109,108,32,101,120,116,101,110,100,101,100,32,114,101,108,97,120,101,100,32,49,46,48]), ([45,47,47,115,111,102,116,113,117,97,100], [104,111,116,109,101,116,97,108,32,112,114,111,32,52,46,48,58,58,49,57,57,55,49,48,49,48,58,58,101,120,116,101,110,115,105,111,110,115,32,116,111,32,104,116,109,108,32,52,46,48]), ([45,47,47,115,111,102,116,113,117,97,100,32,115,111,102,116,119,97,114,101], [104,111,116,109,101,116,97,108,32,112,114,111,32,54,46,48,58,58,49,57,57,57,48,54,48,49,58,58,101,120,116,101,110,115,105,111,110,115,32,116,111,32,104,116,109,108,32,52,46,48]), ([45,47,47,115,112,121,103,108,97,115,115], [104,116,109,108,32,50,46,48,32,101,120,116,101,110,100,101,100]), ([45,47,47,115,113], [104,116,109,108,32,50,46,48,32,104,111,116,109,101,116,97,108,32,43,32,101,120,116,101,110,115,105,111,110,115]), ([45,47,47,115,117,110,32,109,105,99,114,111,115,121,115,116,101,109,115,32,99,111,114,112,46], [104,111,116,106,97,118,97,32,104,116,109,108,44,104,111,116,106,97,118,97,32,115,116,114,105,99,116,32,104,116,109,108]), ([45,47,47,119,51,99], [104,116,109,108,32,51,32,49,57,57,53,45,48,51,45,50,52,44,104,116,109,108,32,51,46,50,44,104,116,109,108,32,51,46,50,32,100,114,97,102,116,44,104,116,109,108,32,51,46,50,32,102,105,110,97,108,44,104,116,109,108,32,51,46,50,115,32,100,114,97,102,116,44,104,116,109,108,32,52,46,48,32,102,114,97,109,101,115,101,116]), ([45,47,47,119,51,99], [104,116,109,108,32,52,46,48,32,116,114,97,110,115,105,116,105,111,110,97,108,44,104,116,109,108,32,101,120,112,101,114,105,109,101,110,116,97,108,32,49,57,57,54,48,55,49,50,44,104,116,109,108,32,101,120,112,101,114,105,109,101,110,116,97,108,32,57,55,48,52,50,49,44,119,51,32,104,116,109,108]), ([45,47,47,119,51,111], [119,51,32,104,116,109,108,32,51,46,48]), ([45,47,47,119,101,98,116,101,99,104,115], [109,111,122,105,108,108,97,32,104,116,109,108,44,109,111,122,105,108,108,97,32,104,116,109,108,32,50,46,48]), ([45,47,47,119,51,99], [104,116,109,108,32,52,46,48,49,32,102,114,97,109,101,115,101,116,44,104,116,109,108,32,52,46,48,49,32,116,114,97,110,115,105,116,105,111,110,97,108,44,120,104,116,109,108,32,49,46,48,32,102,114,97,109,101,115,101,116,44,120,104,116,109,108,32,49,46,48,32,116,114,97,110,115,105,116,105,111,110,97,108])]
theorem ofS (l : List Char) : Str.ofString (String.ofList l) = tx (l.map Char.toNat) := by
  rw [Str.ofString_eq_toList, String.toList_ofList]; rfl
theorem cons_eq {α : Type} {a b : α} {l m : List α} (h : a = b) (h2 : l = m) : a :: l = b :: m := by rw [h, h2]
theorem pair_eq {α β : Type} {a b : α} {c d : β} (h : a = b) (h2 : c = d) : (a, c) = (b, d) := by rw [h, h2]
theorem pubRows_eq : pubRows = pubRowsN.map tx := (cons_eq (ofS ['+','/','/','s','i','l','m','a','r','i','l','/','/','d','t','d',' ','h','t','m','l',' ','p','r','o',' ','v','0','r','1','1',' ','1','9','9','7','0','1','0','1','|']) (cons_eq (ofS ['-','/','/','a','s','/','/','d','t','d',' ','h','t','m','l',' ','3','.','0',' ','a','s','w','e','d','i','t',' ','+',' ','e','x','t','e','n','s','i','o','n','s','|']) (cons_eq (ofS ['-','/','/','a','d','v','a','s','o','f','t',' ','l','t','d','/','/','d','t','d',' ','h','t','m','l',' ','3','.','0',' ','a','s','w','e','d','i','t',' ','+',' ','e','x','t','e','n','s','i','o','n','s','|']) (cons_eq (ofS ['-','/','/','i','e','t','f','/','/','d','t','d',' ','h','t','m','l','|',' ','2','.','0',' ','l','e','v','e','l',' ','1','|',' ','2','.','0',' ','l','e','v','e','l',' ','2','|',' ','2','.','0',' ','s','t','r','i','c','t',' ','l','e','v','e','l',' ','1','|',' ','2','.','0',' ','s','t','r','i','c','t',' ','l','e','v','e','l',' ','2','|',' ','2','.','0',' ','s','t','r','i','c','t','|',' ','2','.','0','|',' ','2','.','1','e']) (cons_eq (ofS ['-','/','/','i','e','t','f','/','/','d','t','d',' ','h','t','m','l','|',' ','3','.','0','|',' ','3','.','2',' ','f','i','n','a','l','|',' ','3','.','2','|',' ','3','|',' ','l','e','v','e','l',' ','0','|',' ','l','e','v','e','l',' ','1','|',' ','l','e','v','e','l',' ','2','|',' ','l','e','v','e','l',' ','3','|']) (cons_eq (ofS ['-','/','/','i','e','t','f','/','/','d','t','d',' ','h','t','m','l',' ','s','t','r','i','c','t','|',' ','l','e','v','e','l',' ','0','|',' ','l','e','v','e','l',' ','1','|',' ','l','e','v','e','l',' ','2','|',' ','l','e','v','e','l',' ','3','|']) (cons_eq (ofS ['-','/','/','m','e','t','r','i','u','s','/','/','d','t','d',' ','m','e','t','r','i','u','s',' ','p','r','e','s','e','n','t','a','t','i','o','n','a','l','|']) (cons_eq (ofS ['-','/','/','m','i','c','r','o','s','o','f','t','/','/','d','t','d',' ','i','n','t','e','r','n','e','t',' ','e','x','p','l','o','r','e','r','|',' ','2','.','0',' ','h','t','m','l',' ','s','t','r','i','c','t','|',' ','2','.','0',' ','h','t','m','l','|',' ','2','.','0',' ','t','a','b','l','e','s']) (cons_eq (ofS ['-','/','/','m','i','c','r','o','s','o','f','t','/','/','d','t','d',' ','i','n','t','e','r','n','e','t',' ','e','x','p','l','o','r','e','r','|',' ','3','.','0',' ','h','t','m','l',' ','s','t','r','i','c','t','|',' ','3','.','0',' ','h','t','m','l','|',' ','3','.','0',' ','t','a','b','l','e','s']) (cons_eq (ofS ['-','/','/','n','e','t','s','c','a','p','e',' ','c','o','m','m','.',' ','c','o','r','p','.','/','/','d','t','d','|',' ','h','t','m','l','|',' ','s','t','r','i','c','t',' ','h','t','m','l']) (cons_eq (ofS ['-','/','/','o','\'','r','e','i','l','l','y',' ','a','n','d',' ','a','s','s','o','c','i','a','t','e','s','/','/','d','t','d',' ','h','t','m','l','|',' ','2','.','0','|',' ','e','x','t','e','n','d','e','d',' ','1','.','0','|',' ','e','x','t','e','n','d','e','d',' ','r','e','l','a','x','e','d',' ','1','.','0']) (cons_eq (ofS ['-','/','/','s','q','/','/','d','t','d',' ','h','t','m','l',' ','2','.','0',' ','h','o','t','m','e','t','a','l',' ','+',' ','e','x','t','e','n','s','i','o','n','s','|']) (cons_eq (ofS ['-','/','/','s','o','f','t','q','u','a','d',' ','s','o','f','t','w','a','r','e','/','/','d','t','d',' ','h','o','t','m','e','t','a','l',' ','p','r','o',' ','6','.','0',':',':','1','9','9','9','0','6','0','1',':',':','e','x','t','e','n','s','i','o','n','s',' ','t','o',' ','h','t','m','l',' ','4','.','0','|']) (cons_eq (ofS ['-','/','/','s','o','f','t','q','u','a','d','/','/','d','t','d',' ','h','o','t','m','e','t','a','l',' ','p','r','o',' ','4','.','0',':',':','1','9','9','7','1','0','1','0',':',':','e','x','t','e','n','s','i','o','n','s',' ','t','o',' ','h','t','m','l',' ','4','.','0','|']) (cons_eq (ofS ['-','/','/','s','p','y','g','l','a','s','s','/','/','d','t','d',' ','h','t','m','l',' ','2','.','0',' ','e','x','t','e','n','d','e','d','|']) (cons_eq (ofS ['-','/','/','s','u','n',' ','m','i','c','r','o','s','y','s','t','e','m','s',' ','c','o','r','p','.','/','/','d','t','d','|',' ','h','o','t','j','a','v','a',' ','h','t','m','l','|',' ','h','o','t','j','a','v','a',' ','s','t','r','i','c','t',' ','h','t','m','l']) (cons_eq (ofS ['-','/','/','w','3','c','/','/','d','t','d',' ','h','t','m','l','|',' ','3',' ','1','9','9','5','-','0','3','-','2','4','|',' ','3','.','2',' ','d','r','a','f','t','|',' ','3','.','2',' ','f','i','n','a','l','|',' ','3','.','2','|',' ','3','.','2','s',' ','d','r','a','f','t','|',' ','4','.','0',' ','f','r','a','m','e','s','e','t','|',' ','4','.','0',' ','t','r','a','n','s','i','t','i','o','n','a','l']) (cons_eq (ofS ['-','/','/','w','3','c','/','/','d','t','d',' ','h','t','m','l',' ','e','x','p','e','r','i','m','e','n','t','a','l','|',' ','1','9','9','6','0','7','1','2','|',' ','9','7','0','4','2','1']) (cons_eq (ofS ['-','/','/','w','3','c','/','/','d','t','d',' ','w','3',' ','h','t','m','l','|']) (cons_eq (ofS ['-','/','/','w','3','o','/','/','d','t','d',' ','w','3',' ','h','t','m','l',' ','3','.','0','|']) (cons_eq (ofS ['-','/','/','w','e','b','t','e','c','h','s','/','/','d','t','d',' ','m','o','z','i','l','l','a',' ','h','t','m','l','|',' ','2','.','0','|']) rfl)))))))))))))))))))))
theorem knownRows_eq : knownRows = knownRowsN.map fun r => (tx r.1, tx r.2) := (cons_eq (pair_eq (ofS ['+','/','/','s','i','l','m','a','r','i','l']) (ofS ['h','t','m','l',' ','p','r','o',' ','v','0','r','1','1',' ','1','9','9','7','0','1','0','1'])) (cons_eq (pair_eq (ofS ['-','/','/','a','s']) (ofS ['h','t','m','l',' ','3','.','0',' ','a','s','w','e','d','i','t',' ','+',' ','e','x','t','e','n','s','i','o','n','s'])) (cons_eq (pair_eq (ofS ['-','/','/','a','d','v','a','s','o','f','t',' ','l','t','d']) (ofS ['h','t','m','l',' ','3','.','0',' ','a','s','w','e','d','i','t',' ','+',' ','e','x','t','e','n','s','i','o','n','s'])) (cons_eq (pair_eq (ofS ['-','/','/','i','e','t','f']) (ofS ['h','t','m','l',',','h','t','m','l',' ','2','.','0',',','h','t','m','l',' ','2','.','0',' ','l','e','v','e','l',' ','1',',','h','t','m','l',' ','2','.','0',' ','l','e','v','e','l',' ','2',',','h','t','m','l',' ','2','.','0',' ','s','t','r','i','c','t',',','h','t','m','l',' ','2','.','0',' ','s','t','r','i','c','t',' ','l','e','v','e','l',' ','1'])) (cons_eq (pair_eq (ofS ['-','/','/','i','e','t','f']) (ofS ['h','t','m','l',' ','2','.','0',' ','s','t','r','i','c','t',' ','l','e','v','e','l',' ','2',',','h','t','m','l',' ','2','.','1','e',',','h','t','m','l',' ','3',',','h','t','m','l',' ','3','.','0',',','h','t','m','l',' ','3','.','2',',','h','t','m','l',' ','3','.','2',' ','f','i','n','a','l',',','h','t','m','l',' ','l','e','v','e','l',' ','0'])) (cons_eq (pair_eq (ofS ['-','/','/','i','e','t','f']) (ofS ['h','t','m','l',' ','l','e','v','e','l',' ','1',',','h','t','m','l',' ','l','e','v','e','l',' ','2',',','h','t','m','l',' ','l','e','v','e','l',' ','3',',','h','t','m','l',' ','s','t','r','i','c','t',',','h','t','m','l',' ','s','t','r','i','c','t',' ','l','e','v','e','l',' ','0',',','h','t','m','l',' ','s','t','r','i','c','t',' ','l','e','v','e','l',' ','1'])) (cons_eq (pair_eq (ofS ['-','/','/','i','e','t','f']) (ofS ['h','t','m','l',' ','s','t','r','i','c','t',' ','l','e','v','e','l',' ','2',',','h','t','m','l',' ','s','t','r','i','c','t',' ','l','e','v','e','l',' ','3'])) (cons_eq (pair_eq (ofS ['-','/','/','m','e','t','r','i','u','s']) (ofS ['m','e','t','r','i','u','s',' ','p','r','e','s','e','n','t','a','t','i','o','n','a','l'])) (cons_eq (pair_eq (ofS ['-','/','/','m','i','c','r','o','s','o','f','t']) (ofS ['i','n','t','e','r','n','e','t',' ','e','x','p','l','o','r','e','r',' ','2','.','0',' ','h','t','m','l',',','i','n','t','e','r','n','e','t',' ','e','x','p','l','o','r','e','r',' ','2','.','0',' ','h','t','m','l',' ','s','t','r','i','c','t',',','i','n','t','e','r','n','e','t',' ','e','x','p','l','o','r','e','r',' ','2','.','0',' ','t','a','b','l','e','s'])) (cons_eq (pair_eq (ofS ['-','/','/','m','i','c','r','o','s','o','f','t']) (ofS ['i','n','t','e','r','n','e','t',' ','e','x','p','l','o','r','e','r',' ','3','.','0',' ','h','t','m','l',',','i','n','t','e','r','n','e','t',' ','e','x','p','l','o','r','e','r',' ','3','.','0',' ','h','t','m','l',' ','s','t','r','i','c','t',',','i','n','t','e','r','n','e','t',' ','e','x','p','l','o','r','e','r',' ','3','.','0',' ','t','a','b','l','e','s'])) (cons_eq (pair_eq (ofS ['-','/','/','n','e','t','s','c','a','p','e',' ','c','o','m','m','.',' ','c','o','r','p','.']) (ofS ['h','t','m','l',',','s','t','r','i','c','t',' ','h','t','m','l'])) (cons_eq (pair_eq (ofS ['-','/','/','o','\'','r','e','i','l','l','y',' ','a','n','d',' ','a','s','s','o','c','i','a','t','e','s']) (ofS ['h','t','m','l',' ','2','.','0',',','h','t','m','l',' ','e','x','t','e','n','d','e','d',' ','1','.','0',',','h','t','m','l',' ','e','x','t','e','n','d','e','d',' ','r','e','l','a','x','e','d',' ','1','.','0'])) (cons_eq (pair_eq (ofS ['-','/','/','s','o','f','t','q','u','a','d']) (ofS ['h','o','t','m','e','t','a','l',' ','p','r','o',' ','4','.','0',':',':','1','9','9','7','1','0','1','0',':',':','e','x','t','e','n','s','i','o','n','s',' ','t','o',' ','h','t','m','l',' ','4','.','0'])) (cons_eq (pair_eq (ofS ['-','/','/','s','o','f','t','q','u','a','d',' ','s','o','f','t','w','a','r','e']) (ofS ['h','o','t','m','e','t','a','l',' ','p','r','o',' ','6','.','0',':',':','1','9','9','9','0','6','0','1',':',':','e','x','t','e','n','s','i','o','n','s',' ','t','o',' ','h','t','m','l',' ','4','.','0'])) (cons_eq (pair_eq (ofS ['-','/','/','s','p','y','g','l','a','s','s']) (ofS ['h','t','m','l',' ','2','.','0',' ','e','x','t','e','n','d','e','d'])) (cons_eq (pair_eq (ofS ['-','/','/','s','q']) (ofS ['h','t','m','l',' ','2','.','0',' ','h','o','t','m','e','t','a','l',' ','+',' ','e','x','t','e','n','s','i','o','n','s'])) (cons_eq (pair_eq (ofS ['-','/','/','s','u','n',' ','m','i','c','r','o','s','y','s','t','e','m','s',' ','c','o','r','p','.']) (ofS ['h','o','t','j','a','v','a',' ','h','t','m','l',',','h','o','t','j','a','v','a',' ','s','t','r','i','c','t',' ','h','t','m','l'])) (cons_eq (pair_eq (ofS ['-','/','/','w','3','c']) (ofS ['h','t','m','l',' ','3',' ','1','9','9','5','-','0','3','-','2','4',',','h','t','m','l',' ','3','.','2',',','h','t','m','l',' ','3','.','2',' ','d','r','a','f','t',',','h','t','m','l',' ','3','.','2',' ','f','i','n','a','l',',','h','t','m','l',' ','3','.','2','s',' ','d','r','a','f','t',',','h','t','m','l',' ','4','.','0',' ','f','r','a','m','e','s','e','t'])) (cons_eq (pair_eq (ofS ['-','/','/','w','3','c']) (ofS ['h','t','m','l',' ','4','.','0',' ','t','r','a','n','s','i','t','i','o','n','a','l',',','h','t','m','l',' ','e','x','p','e','r','i','m','e','n','t','a','l',' ','1','9','9','6','0','7','1','2',',','h','t','m','l',' ','e','x','p','e','r','i','m','e','n','t','a','l',' ','9','7','0','4','2','1',',','w','3',' ','h','t','m','l'])) (cons_eq (pair_eq (ofS ['-','/','/','w','3','o']) (ofS ['w','3',' ','h','t','m','l',' ','3','.','0'])) (cons_eq (pair_eq (ofS ['-','/','/','w','e','b','t','e','c','h','s']) (ofS ['m','o','z','i','l','l','a',' ','h','t','m','l',',','m','o','z','i','l','l','a',' ','h','t','m','l',' ','2','.','0'])) (cons_eq (pair_eq (ofS ['-','/','/','w','3','c']) (ofS ['h','t','m','l',' ','4','.','0','1',' ','f','r','a','m','e','s','e','t',',','h','t','m','l',' ','4','.','0','1',' ','t','r','a','n','s','i','t','i','o','n','a','l',',','x','h','t','m','l',' ','1','.','0',' ','f','r','a','m','e','s','e','t',',','x','h','t','m','l',' ','1','.','0',' ','t','r','a','n','s','i','t','i','o','n','a','l'])) rfl))))))))))))))))))))))
theorem pub_short : ∀ r ∈ pubRows, r.length ≤ 200 := by
  rw [pubRows_eq]
  intro r hr
  obtain ⟨l, hl, rfl⟩ := List.mem_map.mp hr
  have h : (pubRowsN.all fun l => decide (l.length ≤ 200)) = true := by decide +kernel
  have := of_decide_eq_true (List.all_eq_true.mp h l hl)
  simpa [tx, Str.length] using this
theorem known_short : ∀ r ∈ knownRows, r.1.length ≤ 200 ∧ r.2.length ≤ 200 := by
  rw [knownRows_eq]
  intro r hr
  obtain ⟨l, hl, rfl⟩ := List.mem_map.mp hr
  have h : (knownRowsN.all fun l => decide (l.1.length ≤ 200) && decide (l.2.length ≤ 200)) = true := by decide +kernel
  have := List.all_eq_true.mp h l hl
  simpa [tx, Str.length] using this

/- a list of numbers cut at each c -/
noncomputable def spl (c : Nat) : List Nat → List (List Nat)
  | [] => [[]]
  | a :: r => if a = c then [] :: spl c r else match spl c r with
    | [] => [[a]]
    | p :: q => (a :: p) :: q
theorem spl_ne (c : Nat) : ∀ l, spl c l ≠ []
  | [] => by simp [spl]
  | a :: r => by
    unfold spl
    split
    · simp
    · split <;> simp
theorem tx_inj {a b : List Nat} (h : tx a = tx b) : a = b := by
  have := congrArg (fun x : Str => x.cps.toList) h
  simpa [tx] using this
theorem tx_app (a b : List Nat) : tx a ++ tx b = tx (a ++ b) := by
  refine PySem.Str.ext' (Array.toList_inj.mp ?_)
  rw [PySem.Str.cps_append]; simp [tx]
theorem tx_cps (x : Str) : tx x.cps.toList = x := by
  refine PySem.Str.ext' (Array.toList_inj.mp ?_); simp [tx]
/- parts without c, joined by c, are the cuts -/
theorem spl_join (c : Nat) : ∀ (ps : List (List Nat)), ps ≠ [] → (∀ p ∈ ps, c ∉ p) → spl c (ps.tail.foldl (fun a p => a ++ c :: p) ps.head!) = ps := by
  have one : ∀ (p r : List Nat), c ∉ p → spl c (p ++ c :: r) = p :: spl c r := by
    intro p r hp
    induction p with
    | nil => simp [spl]
    | cons a p ih =>
      have ha : a ≠ c := fun e => hp (by simp [e])
      have ih' := ih (fun h => hp (List.mem_cons_of_mem _ h))
      simp only [List.cons_append, spl, if_neg ha, ih']
  have last : ∀ (p : List Nat), c ∉ p → spl c p = [p] := by
    intro p hp
    induction p with
    | nil => simp [spl]
    | cons a p ih =>
      have ha : a ≠ c := fun e => hp (by simp [e])
      have ih' := ih (fun h => hp (List.mem_cons_of_mem _ h))
      simp only [spl, if_neg ha, ih']
  have shift : ∀ (ps : List (List Nat)) (a b : List Nat), ps.foldl (fun a p => a ++ c :: p) (a ++ b) = a ++ ps.foldl (fun a p => a ++ c :: p) b := by
    intro ps
    induction ps with
    | nil => intro a b; rfl
    | cons p r ih => intro a b; simp only [List.foldl_cons, List.append_assoc]; exact ih a (b ++ c :: p)
  intro ps
  induction ps with
  | nil => intro h; exact absurd rfl h
  | cons p r ih =>
    intro _ h
    cases r with
    | nil => exact last p (h p (by simp))
    | cons q r' =>
      have e : (p :: q :: r').tail.foldl (fun a p => a ++ c :: p) (p :: q :: r').head! = p ++ c :: ((q :: r').tail.foldl (fun a p => a ++ c :: p) (q :: r').head!) := by
        show r'.foldl _ (p ++ c :: q) = p ++ c :: (r'.foldl _ q)
        have := shift r' (p ++ [c]) q
        simpa using this
      rw [e, one p _ (h p (by simp)), ih (by simp) (fun z hz => h z (List.mem_cons_of_mem _ hz))]
theorem join_tx (c : Nat) : ∀ (ps : List (List Nat)), ps ≠ [] → Str.join (tx [c]) (ps.map tx) = tx (ps.tail.foldl (fun a p => a ++ c :: p) ps.head!) := by
  intro ps hne
  obtain ⟨p, r, rfl⟩ := List.exists_cons_of_ne_nil hne
  rw [← StrLaws.glued_eq_join]
  show Str.mk _ = _
  simp only [List.map_cons, List.drop_succ_cons, List.drop_zero, List.headD_cons, List.tail_cons]
  show Str.mk _ = tx (List.foldl _ p r)
  have : ∀ (r : List (List Nat)) (a : List Nat), (r.map tx).foldl (fun acc p => acc ++ (tx [c]).cps ++ p.cps) a.toArray = (r.foldl (fun a p => a ++ c :: p) a).toArray := by
    intro r
    induction r with
    | nil => intro a; rfl
    | cons q r ih =>
      intro a
      simp only [List.map_cons, List.foldl_cons]
      rw [← ih]
      congr 1
      simp [tx]
  exact congrArg Str.mk (this r p)
theorem split_spl (c : Nat) (l : List Nat) : Txt.split (tx l) (tx [c]) = (spl c l).map tx := by
  have e1 := StrLaws.join_split (tx l) (tx [c])
  have e2 := StrLaws.split_free (tx l) c
  have e3 : Txt.split (tx l) (tx [c]) ≠ [] := fun e => by have := split_pos (tx l) (tx [c]); rw [e] at this; simp at this
  obtain ⟨ps, hps⟩ : ∃ ps : List (List Nat), Txt.split (tx l) (tx [c]) = ps.map tx := ⟨(Txt.split (tx l) (tx [c])).map (fun x => x.cps.toList), by rw [List.map_map]; exact (List.map_id'' (fun x => tx_cps x) _).symm⟩
  have hne : ps ≠ [] := fun e => e3 (by rw [hps, e]; rfl)
  have hfree : ∀ p ∈ ps, c ∉ p := fun p hp => by
    have := e2 (tx p) (by show tx p ∈ Txt.split (tx l) (tx [c]); rw [hps]; exact List.mem_map_of_mem hp)
    simpa [tx] using this
  rw [hps, join_tx c ps hne] at e1
  rw [hps, ← tx_inj e1, spl_join c ps hne hfree]
noncomputable def pubOfN (l : List Nat) : List (List Nat) := match spl 124 l with
  | [] => []
  | p :: ts => ts.map fun t => p ++ t ++ [47, 47]
noncomputable def knownOfN (r : List Nat × List Nat) : List (List Nat) := (spl 44 r.2).map fun t => r.1 ++ [47, 47, 100, 116, 100, 32] ++ t ++ [47, 47]
noncomputable def pubN : List (List Nat) := pubRowsN.flatMap pubOfN
noncomputable def knownN : List (List Nat) := knownRowsN.flatMap knownOfN
theorem bar_eq : bar = tx [124] := ofS ['|']
theorem comma_eq : comma = tx [44] := ofS [',']
theorem slashes_eq : slashes = tx [47, 47] := ofS ['/', '/']
theorem dtd_eq : dtd = tx [47, 47, 100, 116, 100, 32] := ofS ['/', '/', 'd', 't', 'd', ' ']
theorem pubOf_tx (l : List Nat) : pubOf (tx l) = (pubOfN l).map tx := by
  unfold pubOf pubOfN
  rw [bar_eq, slashes_eq, split_spl]
  cases spl 124 l with
  | nil => rfl
  | cons p ts =>
    simp only [List.map_cons, List.map_map]
    refine List.map_congr_left fun t _ => ?_
    simp only [Function.comp, tx_app]
theorem knownOf_tx (r : List Nat × List Nat) : knownOf (tx r.1, tx r.2) = (knownOfN r).map tx := by
  unfold knownOf knownOfN
  rw [comma_eq, slashes_eq, dtd_eq, split_spl]
  simp only [List.map_map]
  refine List.map_congr_left fun t _ => ?_
  simp only [Function.comp, tx_app]
theorem publicL_eq : publicL = pubN.map tx := by
  unfold publicL pubN
  rw [pubRows_eq, List.flatMap_map, List.map_flatMap]
  exact congrArg (fun f => List.flatMap f pubRowsN) (funext pubOf_tx)
theorem knownL_eq : knownL = knownN.map tx := by
  unfold knownL knownN
  rw [knownRows_eq, List.flatMap_map, List.map_flatMap]
  exact congrArg (fun f => List.flatMap f knownRowsN) (funext knownOf_tx)
theorem perm_N : pubN.Perm (knownN.take 55) := List.isPerm_iff.mp (by decide +kernel)
theorem public_perm : publicL.Perm (knownL.take 55) := by
  rw [publicL_eq, knownL_eq, ← List.map_take]
  exact perm_N.map tx
theorem known_len : knownL.length = 59 := by
  rw [knownL_eq, List.length_map]
  decide +kernel

end
theorem tick_tables : True := by first | walk1 | trivial
section
variable {w : World} {loose : List Str} {mean : ExcName → Option Value} {mg mb : Str → Option Value}
theorem my_item {prog : Program} {A : Around} {E : Value → Shared → Prop} {s : Shared} {value slice : PySem.Expr} {l : Addr} {vs : List Value} {k : Int} {u : Tok} {v : Value} {Q : Value → Shared → Prop}
    (hl : s.heap.IsList l vs.toArray) (h0 : 0 ≤ k) (hhi : k < 2 ^ 63) (hx : vs[k.toNat]? = some v) (h : Q v s)
    (hs : subscripted slice false (.ref l) (.int k u) = operate [.ref l, .int k u] (getItem (.ref l) (.int k u))) :
    wpAny (model prog w) A (subscriptTail value slice (.ref l) (.int k u)) Q E s :=
  tail_any hl.typeIs slot_list_getitem.lookup (wpAny_getItem_list hl h0 hhi (by simpa using hx) h) hs
theorem snoc_map {vs : List Value} {ss ts : List Str} {f : Str → Str} {j : Nat} {z : Str} {t : Tok} (h : StrsAre vs (ss ++ (ts.take j).map f)) (e : ts[j]? = some z) : StrsAre (vs.concat (.str (f z) t)) (ss ++ (ts.take (j + 1)).map f) := by
  rw [List.take_add_one, e, List.concat_eq_append, List.map_append, ← List.append_assoc]
  exact h.append' (.cons _ _ .nil)
theorem off_app {a b : Led} {adr : List Addr} (h1 : OwnOff a adr) (h2 : OwnOff b adr) : OwnOff (a ++ b) adr := fun p hp => (List.mem_append.mp hp).elim (h1 p) (h2 p)
theorem pick_from1 (l : List (Str × Tok)) (p : Str × Tok) : (slicePick (strValues (p :: l)).toArray (some 1) none none).toList = strValues l := by
  have := slicePick_from' (strValues (p :: l)).toArray 1
  exact (congrArg Array.toList this).trans (by simp [strValues])
set_option maxRecDepth 100000 in
set_option maxHeartbeats 8000000 in
theorem d_public_starts : Does w loose mean mg mb 42 1 8 (fun _ => True) [] (TupTx publicL) := by
  unfold Does; k_fill; w_top off
  intro dp un gd cn cs a ccd cl outer A₀ base h₀ L m s B F X T hk hp hd hu
  refine' enter0 (binds := []) ?dB ?dF ?dX ?dT ?dp ?dA ?df ?dke ?dof ?dcd ?droom ?dbind ?dloc ?_ ?c2 ?c3 ?c4 ?c5
  k_dflt (walk_at "d_entered")
  intro g' L' h' tk hp' F' N' B' X' T'
  (try dsimp only); k_fold
  iterate 47 (first | with_reducible (k_here; (with_reducible show wpAny _ _ (call (Value.type _) [Value.ref _]) _ _ _); k_dflt (refine tuple_ofL (by k_asm) (by k_asm) (by exact News.isList (by k_asm) (by k_mem)) ?_ (by (rw [sizeLine_eq]; omega)); k_whole); intro D' h' F' N' _) | with_reducible ((with_reducible show wpAny _ _ (subscriptTail _ _ (Value.ref _) (Value.int _ _)) _ _ _); (k_here; k_dflt (refine my_item (by exact News.isList (by k_asm) (by k_mem)) (by decide) (by decide) (by exact rfl) ?_ (by with_unfolding_all rfl); k_whole))) | with_reducible ((with_reducible show wpAny _ _ (binaryOp _ (Value.str _ _) (Value.str _ _)) _ _ _); ((refine PyProof.Rows.add_str ?_ (by simp only [PySem.Str.length_append]; rw [sizeLine_eq]; omega)); intro _ _)) | walk1)
  (first | with_reducible (k_here; (with_reducible show wpAny _ _ (call (Value.type _) [Value.ref _]) _ _ _); k_dflt (refine tuple_ofL (by k_asm) (by k_asm) (by exact News.isList (by k_asm) (by k_mem)) ?_ (by (rw [sizeLine_eq]; omega)); k_whole); intro D' h' F' N' _) | with_reducible ((with_reducible show wpAny _ _ (subscriptTail _ _ (Value.ref _) (Value.int _ _)) _ _ _); (k_here; k_dflt (refine my_item (by exact News.isList (by k_asm) (by k_mem)) (by decide) (by decide) (by exact rfl) ?_ (by with_unfolding_all rfl); k_whole))) | with_reducible ((with_reducible show wpAny _ _ (binaryOp _ (Value.str _ _) (Value.str _ _)) _ _ _); ((refine PyProof.Rows.add_str ?_ (by simp only [PySem.Str.length_append]; rw [sizeLine_eq]; omega)); intro _ _)) | walk1)
  rename_i l0 _ _ h2 F2 N2
  obtain ⟨vs0, hv0, N3⟩ : ∃ vs0 : List Value, StrsAre vs0 pubRows ∧ News g' L' h2 [(l0, tupObj vs0.toArray 0)] := by
    refine ⟨_, ?_, N2⟩
    repeat' (first | exact StrsAre.nil | refine StrsAre.cons _ _ ?_)
  clear N2
  iterate 8 (first | with_reducible (k_here; (with_reducible show wpAny _ _ (call (Value.type _) [Value.ref _]) _ _ _); k_dflt (refine tuple_ofL (by k_asm) (by k_asm) (by exact News.isList (by k_asm) (by k_mem)) ?_ (by (rw [sizeLine_eq]; omega)); k_whole); intro D' h' F' N' _) | with_reducible ((with_reducible show wpAny _ _ (subscriptTail _ _ (Value.ref _) (Value.int _ _)) _ _ _); (k_here; k_dflt (refine my_item (by exact News.isList (by k_asm) (by k_mem)) (by decide) (by decide) (by exact rfl) ?_ (by with_unfolding_all rfl); k_whole))) | with_reducible ((with_reducible show wpAny _ _ (binaryOp _ (Value.str _ _) (Value.str _ _)) _ _ _); ((refine PyProof.Rows.add_str ?_ (by simp only [PySem.Str.length_append]; rw [sizeLine_eq]; omega)); intro _ _)) | walk1)
  walk_at "d_for"
  (first | with_reducible (k_here; (with_reducible show wpAny _ _ (call (Value.type _) [Value.ref _]) _ _ _); k_dflt (refine tuple_ofL (by k_asm) (by k_asm) (by exact News.isList (by k_asm) (by k_mem)) ?_ (by (rw [sizeLine_eq]; omega)); k_whole); intro D' h' F' N' _) | with_reducible ((with_reducible show wpAny _ _ (subscriptTail _ _ (Value.ref _) (Value.int _ _)) _ _ _); (k_here; k_dflt (refine my_item (by exact News.isList (by k_asm) (by k_mem)) (by decide) (by decide) (by exact rfl) ?_ (by with_unfolding_all rfl); k_whole))) | with_reducible ((with_reducible show wpAny _ _ (binaryOp _ (Value.str _ _) (Value.str _ _)) _ _ _); ((refine PyProof.Rows.add_str ?_ (by simp only [PySem.Str.length_append]; rw [sizeLine_eq]; omega)); intro _ _)) | walk1)
  rename_i _ _ lo _ hlo h3 F3 N4
  have F4 := frame_cast (m' := fun y => if y = Str.ofString "out" then some (.ref lo) else if y = Str.ofString "rows" then some (.ref l0) else if y = Str.ofString "parts" then none else if y = Str.ofString "tail" then none else none) F3 (by
    intro y
    by_cases e1 : y = Str.ofString "out"
    · subst e1; rfl
    by_cases e2 : y = Str.ofString "rows"
    · subst e2; rfl
    simp [e1, e2, List.lookup])
  clear F3
  have hT : IsTup h3 l0 vs0.toArray := News.isTup N4 (by k_mem)
  refine loop_tuple (σ := Array Value × Nat × Option Value × Option Value) (vs := vs0) (fun c y => if y = Str.ofString "out" then some (.ref lo) else if y = Str.ofString "rows" then some (.ref l0) else if y = Str.ofString "parts" then c.2.2.1 else if y = Str.ofString "tail" then c.2.2.2 else none) (fun c => [(lo, listOf c.1 c.2.1)]) [(l0, tupObj vs0.toArray 0)] (fun i c => c.1.size ≤ 202 * i ∧ StrsAre c.1.toList ((pubRows.take i).flatMap pubOf)) (#[], 0, none, none) (adr := [lo]) rfl hT (N4 _ (.tail _ (.head _))).2.1 (fun h => absurd hlo (by rw [List.mem_singleton.mp h]; exact Nat.lt_irrefl _)) (fun _ => rfl) F4 N4 ⟨Nat.zero_le _, .nil⟩ ?_ ?_
  · rintro i v ⟨vs, k, u1, u2⟩ h5 tk5 own hv ⟨hsz, hJ⟩ hoff F5 N5
    obtain ⟨b, tb, rfl, hb⟩ := hv0.item i v hv
    have hbl : b.length ≤ 200 := pub_short b (List.mem_of_getElem? hb)
    have hil : i < 21 := by have := (List.getElem?_eq_some_iff.mp hb).1; exact this
    change Fr g' L' h5 _ at F5; change News g' L' h5 _ at N5; clear F4 N4
    (try simp only [List.nil_append, List.cons_append] at N5)
    dsimp only at hsz hJ F5 N5
    (try dsimp only)
    (try k_fold)
    iterate 9 (first | with_reducible (k_here; (with_reducible show wpAny _ _ (call (Value.type _) [Value.ref _]) _ _ _); k_dflt (refine tuple_ofL (by k_asm) (by k_asm) (by exact News.isList (by k_asm) (by k_mem)) ?_ (by (rw [sizeLine_eq]; omega)); k_whole); intro D' h' F' N' _) | with_reducible ((with_reducible show wpAny _ _ (subscriptTail _ _ (Value.ref _) (Value.int _ _)) _ _ _); (k_here; k_dflt (refine my_item (by exact News.isList (by k_asm) (by k_mem)) (by decide) (by decide) (by exact rfl) ?_ (by with_unfolding_all rfl); k_whole))) | with_reducible ((with_reducible show wpAny _ _ (binaryOp _ (Value.str _ _) (Value.str _ _)) _ _ _); ((refine PyProof.Rows.add_str ?_ (by simp only [PySem.Str.length_append]; rw [sizeLine_eq]; omega)); intro _ _)) | walk1)
    with_reducible (k_here; (with_reducible show wpAny _ _ (call (Value.builtin "str.split") _) _ _ _); (refine KSpl.split1 (by k_asm) (by k_asm) (by decide) ?_ (by rw [sizeLine_eq]; omega)); intro D1 l h6 k1 e1 a1 F6 N6 lt6; (try k_lt lt6))
    obtain ⟨⟨p0, t0⟩, l2, rfl⟩ : ∃ p l2, l = p :: l2 := by
      cases l with
      | nil => have := split_pos b bar; rw [show Txt.split b bar = _ from e1.symm] at this; simp at this
      | cons p l2 => exact ⟨p, l2, rfl⟩
    have hcut := pick_from1 l2 (p0, t0)
    have hlen : ((p0, t0) :: l2).length ≤ 202 := by have := split_le b bar; rw [show Txt.split b bar = _ from e1.symm, List.length_map] at this; omega
    have hcsz : (strValues ((p0, t0) :: l2)).toArray.size ≤ sizeLine := by rw [sizeLine_eq]; simp only [strValues, List.size_toArray, List.length_map]; omega
    have hp0 : p0.length ≤ 200 := Nat.le_trans (part_short (y := bar) (show p0 ∈ Txt.split b bar by rw [show Txt.split b bar = _ from e1.symm]; simp)) hbl
    have hts : ∀ z ∈ l2.map (·.1), z.length ≤ 200 := fun z hz => Nat.le_trans (part_short (y := bar) (show z ∈ Txt.split b bar by rw [show Txt.split b bar = _ from e1.symm]; exact List.mem_cons_of_mem _ hz)) hbl
    have hpub : pubOf b = (l2.map (·.1)).map fun t => p0 ++ t ++ slashes := by unfold pubOf; rw [show Txt.split b bar = _ from e1.symm]; rfl
    have hS2 : StrsAre (strValues l2) (l2.map (·.1)) := strsAre_of_values l2
    iterate 3 (first | with_reducible (k_here; (with_reducible show wpAny _ _ (call (Value.type _) [Value.ref _]) _ _ _); k_dflt (refine tuple_ofL (by k_asm) (by k_asm) (by exact News.isList (by k_asm) (by k_mem)) ?_ (by (rw [sizeLine_eq]; omega)); k_whole); intro D' h' F' N' _) | with_reducible ((with_reducible show wpAny _ _ (subscriptTail _ _ (Value.ref _) (Value.int _ _)) _ _ _); (k_here; k_dflt (refine my_item (by exact News.isList (by k_asm) (by k_mem)) (by decide) (by decide) (by exact rfl) ?_ (by with_unfolding_all rfl); k_whole))) | with_reducible ((with_reducible show wpAny _ _ (binaryOp _ (Value.str _ _) (Value.str _ _)) _ _ _); ((refine PyProof.Rows.add_str ?_ (by simp only [PySem.Str.length_append]; rw [sizeLine_eq]; omega)); intro _ _)) | walk1)
    walk_at "d_for"
    iterate 7 (first | with_reducible (k_here; (with_reducible show wpAny _ _ (call (Value.type _) [Value.ref _]) _ _ _); k_dflt (refine tuple_ofL (by k_asm) (by k_asm) (by exact News.isList (by k_asm) (by k_mem)) ?_ (by (rw [sizeLine_eq]; omega)); k_whole); intro D' h' F' N' _) | with_reducible ((with_reducible show wpAny _ _ (subscriptTail _ _ (Value.ref _) (Value.int _ _)) _ _ _); (k_here; k_dflt (refine my_item (by exact News.isList (by k_asm) (by k_mem)) (by decide) (by decide) (by exact rfl) ?_ (by with_unfolding_all rfl); k_whole))) | with_reducible ((with_reducible show wpAny _ _ (binaryOp _ (Value.str _ _) (Value.str _ _)) _ _ _); ((refine PyProof.Rows.add_str ?_ (by simp only [PySem.Str.length_append]; rw [sizeLine_eq]; omega)); intro _ _)) | walk1)
    with_reducible (k_here; (with_reducible show wpAny _ _ (subscriptTail _ (PySem.Expr.Slice _ _ none _) (Value.ref _) (Value.ref _)) _ _ _); k_dflt (refine kmk_slice_lit (by k_asm) (by k_asm) (by kmk_list) (by kmk_part) (by kmk_part) (by assumption) ?_ (by with_unfolding_all rfl) (by kmk_pure) (by assumption)); intro D2 h7 F7 N7 lt7; (try k_lt lt7); (try k_sweep))
    have hI2 : h7.IsList D2 (strValues l2).toArray := News.isList N7 (by k_mem)
    have N8 : News g' L' h7 ([(lo, listOf vs k)] ++ ((D1, listOf (strValues ((p0, t0) :: l2)).toArray 0) :: (l0, tupObj vs0.toArray 0) :: own)) := by
      intro p hp
      refine N7 p ?_
      simp only [List.cons_append, List.nil_append, List.mem_cons] at hp ⊢
      rcases hp with h | h | h | h <;> simp [h]
    refine loop_list (σ := Array Value × Nat) (vs := strValues l2) (fun _ => _) (fun c => [(lo, listOf c.1 c.2)]) ((D1, listOf (strValues ((p0, t0) :: l2)).toArray 0) :: (l0, tupObj vs0.toArray 0) :: own) (fun j c => c.1.size ≤ 202 * i + j ∧ StrsAre c.1.toList ((pubRows.take i).flatMap pubOf ++ ((l2.map (·.1)).take j).map (fun t => p0 ++ t ++ slashes))) (vs, k) (adr := [lo]) rfl hI2 (N7 _ (.head _)).2.1 (fun h => absurd lt7.2.1 (by rw [List.mem_singleton.mp h]; exact Nat.lt_irrefl _)) (fun _ => rfl) F7 N8 ⟨by simpa using hsz, by simpa using hJ⟩ ?_ ?_
    · rintro jj v ⟨vs', k'⟩ h8 tk8 own2 hv2 ⟨hsz2, hJ2⟩ hoff2 F8 N8'
      obtain ⟨tl, tt, rfl, htl⟩ := hS2.item jj v hv2
      have htl2 : tl.length ≤ 200 := hts tl (List.mem_of_getElem? htl)
      have hjl : jj < 202 := by have := (List.getElem?_eq_some_iff.mp htl).1; simp at this; simp at hlen; omega
      change Fr g' L' h8 _ at F8; change News g' L' h8 _ at N8'; clear F7 N7 N8
      have hoffB := off_app hoff hoff2
      simp only [List.cons_append, List.nil_append] at N8'
      dsimp only at hsz2 hJ2 F8 N8'
      (try dsimp only)
      (try k_fold)
      have q1 : (Str.ofString "//").length = 2 := by decide +kernel
      (repeat' (first | with_reducible (k_here; (with_reducible show wpAny _ _ (call (Value.type _) [Value.ref _]) _ _ _); k_dflt (refine tuple_ofL (by k_asm) (by k_asm) (by exact News.isList (by k_asm) (by k_mem)) ?_ (by (rw [sizeLine_eq]; omega)); k_whole); intro D' h' F' N' _) | with_reducible ((with_reducible show wpAny _ _ (subscriptTail _ _ (Value.ref _) (Value.int _ _)) _ _ _); (k_here; k_dflt (refine my_item (by exact News.isList (by k_asm) (by k_mem)) (by decide) (by decide) (by exact rfl) ?_ (by with_unfolding_all rfl); k_whole))) | with_reducible ((with_reducible show wpAny _ _ (binaryOp _ (Value.str _ _) (Value.str _ _)) _ _ _); ((refine PyProof.Rows.add_str ?_ (by simp only [PySem.Str.length_append]; rw [sizeLine_eq]; omega)); intro _ _)) | (k_unfold; (try dsimp only)) | (k_end; wrow_close) | walk1 | (dsimp only; walk1) | (leave1; (try dsimp only)) | fail "no step"))
      (rename Fr _ _ _ _ => F9); (rename News _ _ _ _ => N9)
      refine LTurn.next (_, _) F9 N9 (List.forall_mem_singleton.mpr (List.Mem.head _)) (by
        intro p hp
        simp only [List.cons_append, List.mem_cons, List.mem_append] at hp ⊢
        rcases hp with h | h | h | h <;> simp [h]) (fun y hy => by simp only [if_neg hy]) ⟨?_, snoc_map hJ2 htl⟩
      show (vs'.push _).size ≤ _
      rw [Array.size_push]; omega
    · rintro ⟨vs', k'⟩ u h8 tk8 ⟨hsz2, hJ2⟩ F8 N8'
      change Fr g' L' h8 _ at F8; change News g' L' h8 _ at N8'; clear F7 N7 N8
      simp only [List.cons_append, List.nil_append] at N8'
      dsimp only at hsz2 hJ2 F8 N8'
      (repeat' (first | with_reducible (k_here; (with_reducible show wpAny _ _ (call (Value.type _) [Value.ref _]) _ _ _); k_dflt (refine tuple_ofL (by k_asm) (by k_asm) (by exact News.isList (by k_asm) (by k_mem)) ?_ (by (rw [sizeLine_eq]; omega)); k_whole); intro D' h' F' N' _) | with_reducible ((with_reducible show wpAny _ _ (subscriptTail _ _ (Value.ref _) (Value.int _ _)) _ _ _); (k_here; k_dflt (refine my_item (by exact News.isList (by k_asm) (by k_mem)) (by decide) (by decide) (by exact rfl) ?_ (by with_unfolding_all rfl); k_whole))) | with_reducible ((with_reducible show wpAny _ _ (binaryOp _ (Value.str _ _) (Value.str _ _)) _ _ _); ((refine PyProof.Rows.add_str ?_ (by simp only [PySem.Str.length_append]; rw [sizeLine_eq]; omega)); intro _ _)) | (k_unfold; (try dsimp only)) | (k_end; wrow_close) | walk1 | (dsimp only; walk1) | (leave1; (try dsimp only)) | fail "no step"))
      have hl2 : (strValues l2).length ≤ 201 := by simp only [strValues, List.length_map]; simp at hlen; omega
      refine LTurn.next (vs', k', some (.ref D1), u) F8 N8' (List.forall_mem_singleton.mpr (List.Mem.head _)) (by
        intro p hp
        simp only [List.cons_append, List.nil_append, List.mem_cons] at hp ⊢
        rcases hp with h | h <;> simp [h]) (fun y hy => by
          by_cases e1 : y = Str.ofString "tail"
          · subst e1; rfl
          by_cases e2 : y = Str.ofString "parts"
          · subst e2; rfl
          by_cases e3 : y = Str.ofString "out"
          · subst e3; rfl
          by_cases e4 : y = Str.ofString "rows"
          · subst e4; rfl
          simp [e1, e2, e3, e4, hy]) ⟨?_, ?_⟩
      · show vs'.size ≤ _; omega
      · show StrsAre vs'.toList _
        rw [List.take_add_one, hb, List.flatMap_append]
        have e9 : (l2.map (·.1)).take (strValues l2).length = l2.map (·.1) := List.take_of_length_le (by simp [strValues])
        rw [e9] at hJ2
        simpa [hpub] using hJ2
  · rintro ⟨⟨vs⟩, k, u1, u2⟩ u h5 tk5 ⟨hsz, hJ⟩ F5 N5
    change Fr g' L' h5 _ at F5; change News g' L' h5 _ at N5; clear F4 N4
    (try simp only [List.nil_append, List.cons_append] at N5)
    dsimp only at hsz hJ F5 N5
    (try dsimp only); (try k_fold)
    have hn : vs0.length = 21 := hv0.length
    have hvl : vs.length ≤ 202 * 21 := by rw [hn] at hsz; exact hsz
    (repeat' (first | with_reducible (k_here; (with_reducible show wpAny _ _ (call (Value.type _) [Value.ref _]) _ _ _); k_dflt (refine tuple_ofL (by k_asm) (by k_asm) (by exact News.isList (by k_asm) (by k_mem)) ?_ (by (rw [sizeLine_eq]; omega)); k_whole); intro D' h' F' N' _) | with_reducible ((with_reducible show wpAny _ _ (subscriptTail _ _ (Value.ref _) (Value.int _ _)) _ _ _); (k_here; k_dflt (refine my_item (by exact News.isList (by k_asm) (by k_mem)) (by decide) (by decide) (by exact rfl) ?_ (by with_unfolding_all rfl); k_whole))) | with_reducible ((with_reducible show wpAny _ _ (binaryOp _ (Value.str _ _) (Value.str _ _)) _ _ _); ((refine PyProof.Rows.add_str ?_ (by simp only [PySem.Str.length_append]; rw [sizeLine_eq]; omega)); intro _ _)) | (k_unfold; (try dsimp only)) | (k_end; wrow_close) | walk1 | (dsimp only; walk1) | (leave1; (try dsimp only)) | fail "no step"))
    (rename News _ _ _ _ => N9)
    refine endO (by k_asm) (tl := [_]) (fun p hp => N9 p (by rw [List.mem_singleton.mp hp]; exact List.Mem.head _)) ⟨_, _, _, rfl, rfl, ?_⟩
    rw [hn] at hJ
    exact hJ

end
theorem tick_public : True := by first | walk1 | trivial
section
variable {w : World} {loose : List Str} {mean : ExcName → Option Value} {mg mb : Str → Option Value}
def LTurnT {σ : Type} (M : σ → Str → Option Value) (Ld : σ → Led) (T : Led) (J : σ → Prop) (h₀ : Heap) (L : Addr) (Q : Flow → Shared → Prop) (s₁ : Shared) (f : Flow) (s₂ : Shared) : Prop :=
  match f with
  | .ret v => Q (.ret v) s₂
  | .brk => Q .next s₂
  | _ => ∃ h' tk m' news' c', s₂ = { s₁ with heap := h', toks := tk } ∧ Fr h₀ L h' m' ∧ News h₀ L h' news' ∧ (∀ p ∈ Ld c', p ∈ news') ∧ (∀ p ∈ T, p ∈ news') ∧ (∀ y, m' y = M c' y) ∧ J c'
section
variable {σ : Type} {M : σ → Str → Option Value} {Ld : σ → Led} {T : Led} {J : σ → Prop} {h₀ : Heap} {L : Addr} {Q : Flow → Shared → Prop} {s₁ : Shared}
theorem LTurnT.next {h' : Heap} {tk : Nat} {m' : Str → Option Value} {news' : Led} (c' : σ) (F : Fr h₀ L h' m') (N : News h₀ L h' news') (hl : ∀ p ∈ Ld c', p ∈ news') (ht : ∀ p ∈ T, p ∈ news') (hm : ∀ y, m' y = M c' y) (hj : J c') :
    LTurnT M Ld T J h₀ L Q s₁ .next { s₁ with heap := h', toks := tk } := ⟨h', tk, m', news', c', rfl, F, N, hl, ht, hm, hj⟩
end
section
variable {prog : Program} {A : Around} {E : Value → Shared → Prop} {s : Shared} {env : Env} {h₀ : Heap} {target : Expr} {body : List Stmt} {Q : Flow → Shared → Prop}
theorem loop_t {σ : Type} {I : Addr} {fp wr : List Addr} {n : Nat} {P : Nat → Value → Prop} {St : Nat → Heap → Prop} (M : σ → Str → Option Value) (Ld : σ → Led) (cst : Led) (J : Nat → σ → Prop) (c₀ : σ) {adr : List Addr}
    (W : Walks prog w A I fp wr n P St) (hgo : ∀ i v (s : Shared) (Q : Unit → Shared → Prop) (E : Value → Shared → Prop), St i s.heap → Q () s → wpAny (model prog w) A (letOwnedTupleGo target (.ref I) v) Q E s)
    (hLf : env.locals ∉ fp) (hwr : ∀ b ∈ wr, h₀.get? b = none) (hnw : ∀ p ∈ Ld c₀ ++ cst, p.1 ∉ wr) (hfp : ∀ q ∈ Ld c₀, q.1 ∉ fp) (hadr : ∀ c, (Ld c).map (·.1) = adr) (hst : St 0 s.heap)
    (F : Fr h₀ env.locals s.heap (M c₀)) (N : News h₀ env.locals s.heap (Ld c₀ ++ cst)) (hj : J 0 c₀)
    (turn : ∀ i v c h tk own, i < n → P i v → J i c → OwnOff own adr → Fr h₀ env.locals h (M c) → News h₀ env.locals h (Ld c ++ (cst ++ own)) →
      wpAny (model prog w) A (assign target env v) (fun _ s₃ => wpAny (model prog w) A (execs body env) (LTurnT M Ld (cst ++ own) (J (i + 1)) h₀ env.locals Q { s with heap := h, toks := tk }) E s₃) E { s with heap := h, toks := tk })
    (done : ∀ c h tk, J n c → Fr h₀ env.locals h (M c) → News h₀ env.locals h (Ld c ++ cst) → Q .next { s with heap := h, toks := tk }) :
    TurnsAt prog w A h₀ env target body Q E (.ref I) s := by
  have inAdr : ∀ c, ∀ p ∈ Ld c, ∃ q ∈ Ld c₀, q.1 = p.1 := fun c p hp => by
    have : p.1 ∈ (Ld c).map (·.1) := List.mem_map_of_mem hp
    rw [hadr c, ← hadr c₀] at this
    obtain ⟨q, hq, e⟩ := List.mem_map.mp this
    exact ⟨q, hq, e⟩
  refine ⟨I, fp, wr, n, _, _, St, M c₀, Ld c₀ ++ cst, (fun i m nx => ∃ c, nx = Ld c ++ cst ∧ (∀ y, m y = M c y) ∧ J i c), rfl, KTurns.ofWalks W hgo, hLf, hwr, hnw, hst, F, N, ⟨c₀, rfl, fun _ => rfl, hj⟩, ?_, ?_⟩
  · rintro i v m₁ news₁ hh' tk' own hin hP ⟨c, rfl, hm, hJ⟩ hoff hown _ _ _ F₁ N₁
    have hsep : OwnOff own adr := by
      intro p hp b hb e
      rw [← hadr c₀] at hb
      obtain ⟨q, hq, rfl⟩ := List.mem_map.mp hb
      exact hfp q hq (e ▸ hown p hp)
    have em : m₁ = M c := funext hm
    subst em
    have N₂ : News h₀ env.locals hh' (Ld c ++ (cst ++ own)) := fun p hp => N₁ p (by
      simp only [List.mem_append] at hp ⊢
      rcases hp with h | h | h
      · exact .inr (.inl h)
      · exact .inr (.inr h)
      · exact .inl h)
    refine wpAny_mono (turn i v c hh' tk' own hin hP hJ hsep F₁ N₂) (fun _ s₃ q => wpAny_mono q (fun f s₂ p => ?_) fun _ _ e => e) fun _ _ e => e
    have fin : (∃ h' tk m' news' c', s₂ = { s with heap := h', toks := tk } ∧ Fr h₀ env.locals h' m' ∧ News h₀ env.locals h' news' ∧ (∀ p ∈ Ld c', p ∈ news') ∧ (∀ p ∈ cst ++ own, p ∈ news') ∧ (∀ y, m' y = M c' y) ∧ J (i + 1) c') →
        LoopStepU h₀ env.locals wr own (fun m nx => ∃ c, nx = Ld c ++ cst ∧ (∀ y, m y = M c y) ∧ J (i + 1) c) { s with heap := hh', toks := tk' } .next s₂ := by
      rintro ⟨h', tk, m', news', c', e, F', N', hl, ht, hm', hj'⟩
      refine ⟨rfl, h', tk, m', Ld c' ++ cst, e, F', fun p hp => N' p ?_, fun p hp hq => ?_, c', rfl, hm', hj'⟩
      · simp only [List.mem_append] at hp
        rcases hp with h | h | h
        · exact ht p (List.mem_append.mpr (.inr h))
        · exact hl p h
        · exact ht p (List.mem_append.mpr (.inl h))
      · rcases List.mem_append.mp hp with h | h
        · obtain ⟨q, hq', e'⟩ := inAdr c' p h
          exact hnw q (List.mem_append.mpr (.inl hq')) (e' ▸ hq)
        · exact hnw p (List.mem_append.mpr (.inr h)) hq
    cases f with
    | ret v => exact .ret p
    | brk => exact .brk p
    | next => exact .next (fin p)
    | cont => exact .cont (fin p)
  · rintro h' tk m' news' F' N' _ ⟨c, rfl, hm, hJ⟩
    have em : m' = M c := funext hm
    subst em
    exact done c h' tk hJ F' N'
/- for TARGET in a list -/
theorem loop_t_list {σ : Type} {l : Addr} {vs : List Value} (M : σ → Str → Option Value) (Ld : σ → Led) (cst : Led) (J : Nat → σ → Prop) (c₀ : σ) {adr : List Addr}
    (hh : A.handled = none) (hl : s.heap.IsList l vs.toArray) (hlL : l ≠ env.locals) (hlo : l ∉ adr) (hadr : ∀ c, (Ld c).map (·.1) = adr) (F : Fr h₀ env.locals s.heap (M c₀)) (N : News h₀ env.locals s.heap (Ld c₀ ++ cst)) (hj : J 0 c₀)
    (turn : ∀ i v c h tk own, vs[i]? = some v → J i c → OwnOff own adr → Fr h₀ env.locals h (M c) → News h₀ env.locals h (Ld c ++ (cst ++ own)) →
      wpAny (model prog w) A (assign target env v) (fun _ s₃ => wpAny (model prog w) A (execs body env) (LTurnT M Ld (cst ++ own) (J (i + 1)) h₀ env.locals Q { s with heap := h, toks := tk }) E s₃) E { s with heap := h, toks := tk })
    (done : ∀ c h tk, J vs.length c → Fr h₀ env.locals h (M c) → News h₀ env.locals h (Ld c ++ cst) → Q .next { s with heap := h, toks := tk }) :
    wpAny (model prog w) A (pyIter (.ref l)) (fun it s₂ => TurnsAt prog w A h₀ env target body Q E it s₂) E s := by
  obtain ⟨ol, hol, _⟩ := id hl
  have hne : l ≠ s.heap.objs.size := Nat.ne_of_lt (Heap.lt_size hol)
  refine wpAny_pyIter_list hl ?_
  have W := Walks.list (prog := prog) (w := w) hh s.heap.objs.size l hne vs.toArray
  have hlen : vs.toArray.size = vs.length := by simp
  rw [hlen] at W
  refine loop_t M Ld cst J c₀ W (fun i v s Q E st q => letGo_listiter st.1 q) ?_ ?_ ?_ ?_ hadr ⟨⟨_, Heap.get?_push_size _ rfl, rfl, rfl⟩, hl.at fun o e => Heap.get?_push_of_some _ e⟩ (F.push _) (fun p hp => ⟨Heap.get?_push_of_some _ (N p hp).1, (N p hp).2⟩) hj ?_ ?_
  · intro hm
    rcases List.mem_cons.mp hm with e | hm
    · exact absurd F.ns.lt (e ▸ Nat.lt_irrefl _)
    · exact hlL (List.mem_singleton.mp hm).symm
  · intro b hb
    rw [List.mem_singleton.mp hb]
    exact next_is_new F
  · intro p hp hI
    exact absurd (Heap.lt_size (N p hp).1) ((List.mem_singleton.mp hI) ▸ Nat.lt_irrefl _)
  · intro p hp hI
    rcases List.mem_cons.mp hI with e | hI
    · exact absurd (Heap.lt_size (N p (List.mem_append.mpr (.inl hp))).1) (e ▸ Nat.lt_irrefl _)
    · exact hlo (by rw [← hadr c₀, ← List.mem_singleton.mp hI]; exact List.mem_map_of_mem hp)
  · rintro i v c h tk own hi hP hJ hoff F₁ N₁
    exact turn i v c h tk own (by simpa using hP) hJ hoff F₁ N₁
  · exact done
/- for NAME in range(..) -/
theorem loop_t_range {σ : Type} {r : Addr} {a₀ b₀ : Int} {t₀ u₀ v₀ : Tok} {n : Nat} {x : Str} {px : Pos} (ht : target = .Name x px) (M : σ → Str → Option Value) (Ld : σ → Led) (cst : Led) (J : Nat → σ → Prop) (c₀ : σ) {adr : List Addr}
    (hh : A.handled = none) (hr : IsRange s.heap r a₀ b₀ 1 t₀ u₀ v₀) (hsmall : Builtin.Range.small a₀ b₀ 1 = true) (hn : Builtin.Range.rangeSize a₀ b₀ 1 = (n : Int)) (hadr : ∀ c, (Ld c).map (·.1) = adr) (F : Fr h₀ env.locals s.heap (M c₀)) (N : News h₀ env.locals s.heap (Ld c₀ ++ cst)) (hj : J 0 c₀)
    (turn : ∀ i t c h tk own, i < n → J i c → OwnOff own adr → Fr h₀ env.locals h (M c) → News h₀ env.locals h (Ld c ++ (cst ++ own)) →
      wpAny (model prog w) A (assign target env (.int (a₀ + (i : Int)) t)) (fun _ s₃ => wpAny (model prog w) A (execs body env) (LTurnT M Ld (cst ++ own) (J (i + 1)) h₀ env.locals Q { s with heap := h, toks := tk }) E s₃) E { s with heap := h, toks := tk })
    (done : ∀ c h tk, J n c → Fr h₀ env.locals h (M c) → News h₀ env.locals h (Ld c ++ cst) → Q .next { s with heap := h, toks := tk }) :
    wpAny (model prog w) A (pyIter (.ref r)) (fun it s₂ => TurnsAt prog w A h₀ env target body Q E it s₂) E s := by
  subst ht
  refine wpAny_pyIter_range hr hsmall ?_
  have W : Walks prog w A s.heap.objs.size [s.heap.objs.size] [s.heap.objs.size] n (fun i v => ∃ t, v = .int (a₀ + (i : Int)) t) (fun i h => IsRangeIter h s.heap.objs.size (a₀ + (i : Nat) * 1) ((n : Int) - (i : Nat)) 1) := LCg.range_walks hh a₀ n
  refine loop_t M Ld cst J c₀ W (fun i v s Q E st q => wpAny_pure q) ?_ ?_ ?_ ?_ hadr (by show IsRangeIter _ _ _ _ _; rw [hn]; simpa using Heap.get?_push_size _ rfl) (F.push _) (fun p hp => ⟨Heap.get?_push_of_some _ (N p hp).1, (N p hp).2⟩) hj ?_ ?_
  · intro hm
    exact absurd F.ns.lt ((List.mem_singleton.mp hm) ▸ Nat.lt_irrefl _)
  · intro b hb
    rw [List.mem_singleton.mp hb]
    exact next_is_new F
  · intro p hp hI
    exact absurd (Heap.lt_size (N p hp).1) ((List.mem_singleton.mp hI) ▸ Nat.lt_irrefl _)
  · intro p hp hI
    exact absurd (Heap.lt_size (N p (List.mem_append.mpr (.inl hp))).1) ((List.mem_singleton.mp hI) ▸ Nat.lt_irrefl _)
  · rintro i v c h tk own hi ⟨t, rfl⟩ hJ hoff F₁ N₁
    exact turn i t c h tk own hi hJ hoff F₁ N₁
  · exact done
end

end
theorem tick_turns : True := by first | walk1 | trivial
section
variable {w : World} {loose : List Str} {mean : ExcName → Option Value} {mg mb : Str → Option Value}
inductive RowsIn (led : Led) : List Value → List (Str × Str) → Prop
  | nil : RowsIn led [] []
  | cons {T : Addr} {a b : Str} {t u : Tok} {vs : List Value} {rs : List (Str × Str)} (h : (T, tupObj #[.str a t, .str b u] 0) ∈ led) (r : RowsIn led vs rs) : RowsIn led (.ref T :: vs) ((a, b) :: rs)
theorem RowsIn.item {led : Led} : ∀ {vs : List Value} {rs : List (Str × Str)}, RowsIn led vs rs → ∀ (i : Nat) (v : Value), vs[i]? = some v → ∃ T a b t u, v = .ref T ∧ (T, tupObj #[.str a t, .str b u] 0) ∈ led ∧ rs[i]? = some (a, b)
  | _, _, .cons h _, 0, v, e => by simp at e; subst e; exact ⟨_, _, _, _, _, rfl, h, rfl⟩
  | _, _, .cons _ r, i + 1, v, e => by simpa using r.item i v (by simpa using e)
theorem RowsIn.length {led : Led} : ∀ {vs : List Value} {rs : List (Str × Str)}, RowsIn led vs rs → vs.length = rs.length
  | _, _, .nil => rfl
  | _, _, .cons _ r => by simp [r.length]
theorem off_of_lt {d : Addr} : ∀ {l : Led}, AllLt d l → OwnOff l [d]
  | [], _ => fun _ h => nomatch h
  | q :: r, h => fun p hp b hb => by
    rw [List.mem_singleton.mp hb]
    rcases List.mem_cons.mp hp with rfl | hp
    · exact Nat.ne_of_lt h.1
    · exact off_of_lt h.2 p hp d (.head _)
set_option maxRecDepth 100000 in
set_option maxHeartbeats 8000000 in
theorem d_known : Does w loose mean mg mb 98 1 8 (fun _ => True) [] (ListTx knownL) := by
  unfold Does; k_fill; w_top off
  intro dp un gd cn cs a ccd cl outer A₀ base h₀ L m s B F X T hk hp hd hu
  refine' enter0 (binds := []) ?dB ?dF ?dX ?dT ?dp ?dA ?df ?dke ?dof ?dcd ?droom ?dbind ?dloc ?_ ?c2 ?c3 ?c4 ?c5
  k_dflt (walk_at "d_entered")
  intro g' L' h' tk hp' F' N' B' X' T'
  (try dsimp only); k_fold
  iterate 183 (first | with_reducible ((with_reducible show wpAny _ _ (binaryOp _ (Value.str _ _) (Value.str _ _)) _ _ _); ((refine PyProof.Rows.add_str ?_ (by simp only [PySem.Str.length_append]; rw [sizeLine_eq]; omega)); intro _ _)) | walk1)
  rename_i _ _ y0 _ _ y1 _ _ y2 _ _ y3 _ _ y4 _ _ y5 _ _ y6 _ _ y7 _ _ y8 _ _ y9 _ _ y10 _ _ y11 _ _ y12 _ _ y13 _ _ y14 _ _ y15 _ _ y16 _ _ y17 _ _ y18 _ _ y19 _ _ y20 _ _ y21 l0 _ lt0 h2 F2 N2
  obtain ⟨vs0, cst, hrows, N3, hlt⟩ : ∃ (vs0 : List Value) (cst : Led), RowsIn cst vs0 knownRows ∧ News g' L' h2 ((l0, listOf vs0.toArray 0) :: cst) ∧ OwnOff cst [l0] := by
    refine ⟨_, _, ?_, N2, ?_⟩
    · repeat' (first | exact RowsIn.nil | refine RowsIn.cons (by k_mem) ?_)
    · refine off_of_lt ?_
      simp only [AllLt, and_true]; exact lt0
  clear N2 lt0 y0 y1 y2 y3 y4 y5 y6 y7 y8 y9 y10 y11 y12 y13 y14 y15 y16 y17 y18 y19 y20 y21
  iterate 7 (first | with_reducible ((with_reducible show wpAny _ _ (binaryOp _ (Value.str _ _) (Value.str _ _)) _ _ _); ((refine PyProof.Rows.add_str ?_ (by simp only [PySem.Str.length_append]; rw [sizeLine_eq]; omega)); intro _ _)) | walk1)
  walk_at "d_fort"
  (first | with_reducible ((with_reducible show wpAny _ _ (binaryOp _ (Value.str _ _) (Value.str _ _)) _ _ _); ((refine PyProof.Rows.add_str ?_ (by simp only [PySem.Str.length_append]; rw [sizeLine_eq]; omega)); intro _ _)) | walk1)
  rename_i lo _ hlo h3 F3 N4
  have hoc : OwnOff cst [lo] := off_of_lt hlo.2
  have F4 := frame_cast (m' := fun y => if y = Str.ofString "out" then some (.ref lo) else if y = Str.ofString "rows" then some (.ref l0) else if y = Str.ofString "owner" then none else if y = Str.ofString "tails" then none else if y = Str.ofString "tail" then none else none) F3 (by
    intro y
    by_cases e1 : y = Str.ofString "out"
    · subst e1; rfl
    by_cases e2 : y = Str.ofString "rows"
    · subst e2; rfl
    simp [e1, e2, List.lookup])
  clear F3
  have hIL : h3.IsList l0 vs0.toArray := News.isList N4 (by k_mem)
  refine loop_t_list (σ := Array Value × Nat × Option Value × Option Value × Option Value) (vs := vs0) (fun c y => if y = Str.ofString "out" then some (.ref lo) else if y = Str.ofString "rows" then some (.ref l0) else if y = Str.ofString "owner" then c.2.2.1 else if y = Str.ofString "tails" then c.2.2.2.1 else if y = Str.ofString "tail" then c.2.2.2.2 else none) (fun c => [(lo, listOf c.1 c.2.1)]) ((l0, listOf vs0.toArray 0) :: cst) (fun i c => c.1.size ≤ 202 * i ∧ StrsAre c.1.toList ((knownRows.take i).flatMap knownOf)) (#[], 0, none, none, none) (adr := [lo]) rfl hIL (N4 _ (.tail _ (.head _))).2.1 (fun h => absurd hlo.1 (by rw [List.mem_singleton.mp h]; exact Nat.lt_irrefl _)) (fun _ => rfl) F4 N4 ⟨Nat.zero_le _, .nil⟩ ?_ ?_
  · rintro i v ⟨vs, k, u1, u2, u3⟩ h5 tk5 own hv ⟨hsz, hJ⟩ hoff F5 N5
    obtain ⟨TT, ow, ta, to, tt, rfl, hTT, hb⟩ := hrows.item i v hv
    have hbl := known_short _ (List.mem_of_getElem? hb)
    have hil : i < 22 := by have := (List.getElem?_eq_some_iff.mp hb).1; exact this
    change Fr g' L' h5 _ at F5; change News g' L' h5 _ at N5; clear F4 N4
    (try simp only [List.nil_append, List.cons_append] at N5)
    dsimp only at hsz hJ F5 N5 hbl
    have hTlo : TT ≠ lo := hoc _ hTT lo (.head _)
    have hcb : OwnOff (cst ++ own) [lo] := off_app hoc hoff
    have N6 : News g' L' h5 ((TT, tupObj #[.str ow to, .str ta tt] 0) :: (lo, listOf vs k) :: (l0, listOf vs0.toArray 0) :: (cst ++ own)) := by
      intro p hp
      rcases List.mem_cons.mp hp with h | h
      · subst h; exact N5 _ (List.mem_cons_of_mem _ (List.mem_cons_of_mem _ (List.mem_append.mpr (.inl hTT))))
      · exact N5 _ h
    clear N5
    (try dsimp only)
    (try k_fold)
    iterate 10 (first | with_reducible ((with_reducible show wpAny _ _ (binaryOp _ (Value.str _ _) (Value.str _ _)) _ _ _); ((refine PyProof.Rows.add_str ?_ (by simp only [PySem.Str.length_append]; rw [sizeLine_eq]; omega)); intro _ _)) | walk1)
    walk_at "d_for"
    iterate 7 (first | with_reducible ((with_reducible show wpAny _ _ (binaryOp _ (Value.str _ _) (Value.str _ _)) _ _ _); ((refine PyProof.Rows.add_str ?_ (by simp only [PySem.Str.length_append]; rw [sizeLine_eq]; omega)); intro _ _)) | walk1)
    with_reducible (k_here; (with_reducible show wpAny _ _ (call (Value.builtin "str.split") _) _ _ _); (refine KSpl.split1 (by k_asm) (by k_asm) (by decide) ?_ (by rw [sizeLine_eq]; omega)); intro D1 l h7 k1 e1 a1 F7 N7 lt7; (try k_lt lt7))
    have hS2 : StrsAre (strValues l) (l.map (·.1)) := strsAre_of_values l
    have hlen : l.length ≤ 202 := by have := split_le ta comma; rw [show Txt.split ta comma = _ from e1.symm, List.length_map] at this; omega
    have hts : ∀ z ∈ l.map (·.1), z.length ≤ 200 := fun z hz => Nat.le_trans (part_short (y := comma) (show z ∈ Txt.split ta comma by rw [show Txt.split ta comma = _ from e1.symm]; exact hz)) hbl.2
    have hkn : knownOf (ow, ta) = (l.map (·.1)).map fun t => ow ++ dtd ++ t ++ slashes := by unfold knownOf; rw [show Txt.split (ow, ta).2 comma = _ from e1.symm]
    have hI2 : h7.IsList D1 (strValues l).toArray := News.isList N7 (by k_mem)
    have N8 : News g' L' h7 ([(lo, listOf vs k)] ++ ((l0, listOf vs0.toArray 0) :: (cst ++ own))) := by
      intro p hp
      refine N7 p ?_
      simp only [List.cons_append, List.nil_append, List.mem_cons] at hp ⊢
      rcases hp with h | h | h <;> simp [h]
    refine loop_list (σ := Array Value × Nat) (vs := strValues l) (fun _ => _) (fun c => [(lo, listOf c.1 c.2)]) ((l0, listOf vs0.toArray 0) :: (cst ++ own)) (fun j c => c.1.size ≤ 202 * i + j ∧ StrsAre c.1.toList ((knownRows.take i).flatMap knownOf ++ ((l.map (·.1)).take j).map (fun t => ow ++ dtd ++ t ++ slashes))) (vs, k) (adr := [lo]) rfl hI2 (N7 _ (.head _)).2.1 (fun h => absurd lt7.2.1 (by rw [List.mem_singleton.mp h]; exact Nat.lt_irrefl _)) (fun _ => rfl) F7 N8 ⟨by simpa using hsz, by simpa using hJ⟩ ?_ ?_
    · rintro jj v ⟨vs', k'⟩ h8 tk8 own2 hv2 ⟨hsz2, hJ2⟩ hoff2 F8 N8'
      obtain ⟨tl, tt2, rfl, htl⟩ := hS2.item jj v hv2
      have htl2 : tl.length ≤ 200 := hts tl (List.mem_of_getElem? htl)
      have hjl : jj < 202 := by have := (List.getElem?_eq_some_iff.mp htl).1; simp at this; omega
      change Fr g' L' h8 _ at F8; change News g' L' h8 _ at N8'; clear F7 N7 N8
      have hoffB := off_app hcb hoff2
      simp only [List.cons_append, List.nil_append] at N8'
      dsimp only at hsz2 hJ2 F8 N8'
      have q1 : (Str.ofString "//").length = 2 := by decide +kernel
      have q2 : (Str.ofString "//dtd ").length = 6 := by decide +kernel
      have q3 := hbl.1
      (try dsimp only)
      (try k_fold)
      (repeat' (first | with_reducible ((with_reducible show wpAny _ _ (binaryOp _ (Value.str _ _) (Value.str _ _)) _ _ _); ((refine PyProof.Rows.add_str ?_ (by simp only [PySem.Str.length_append]; rw [sizeLine_eq]; omega)); intro _ _)) | (k_unfold; (try dsimp only)) | (k_end; wrow_close) | walk1 | (dsimp only; walk1) | (leave1; (try dsimp only)) | fail "no step"))
      (rename Fr _ _ _ _ => F9); (rename News _ _ _ _ => N9)
      refine LTurn.next (_, _) F9 N9 (List.forall_mem_singleton.mpr (List.Mem.head _)) (by
        intro p hp
        simp only [List.cons_append, List.mem_cons, List.mem_append] at hp ⊢
        rcases hp with h | h | h <;> simp [h]) (fun y hy => by simp only [if_neg hy]) ⟨?_, snoc_map hJ2 htl⟩
      show (vs'.push _).size ≤ _
      rw [Array.size_push]; omega
    · rintro ⟨vs', k'⟩ u h8 tk8 ⟨hsz2, hJ2⟩ F8 N8'
      change Fr g' L' h8 _ at F8; change News g' L' h8 _ at N8'; clear F7 N7 N8
      simp only [List.cons_append, List.nil_append] at N8'
      dsimp only at hsz2 hJ2 F8 N8'
      (repeat' (first | with_reducible ((with_reducible show wpAny _ _ (binaryOp _ (Value.str _ _) (Value.str _ _)) _ _ _); ((refine PyProof.Rows.add_str ?_ (by simp only [PySem.Str.length_append]; rw [sizeLine_eq]; omega)); intro _ _)) | (k_unfold; (try dsimp only)) | (k_end; wrow_close) | walk1 | (dsimp only; walk1) | (leave1; (try dsimp only)) | fail "no step"))
      have hl2 : (strValues l).length ≤ 202 := by simp only [strValues, List.length_map]; exact hlen
      refine LTurnT.next (vs', k', some (.str ow to), some (.str ta tt), u) F8 N8' (List.forall_mem_singleton.mpr (List.Mem.head _)) (by
        intro p hp
        simp only [List.cons_append, List.nil_append, List.mem_cons] at hp ⊢
        rcases hp with h | h <;> simp [h]) (fun y => by
          by_cases e1 : y = Str.ofString "tail"
          · subst e1; rfl
          by_cases e2 : y = Str.ofString "tails"
          · subst e2; rfl
          by_cases e5 : y = Str.ofString "owner"
          · subst e5; rfl
          by_cases e3 : y = Str.ofString "out"
          · subst e3; rfl
          by_cases e4 : y = Str.ofString "rows"
          · subst e4; rfl
          simp [e1, e2, e3, e4, e5]) ⟨?_, ?_⟩
      · show vs'.size ≤ _; omega
      · show StrsAre vs'.toList _
        rw [List.take_add_one, hb, List.flatMap_append]
        have e9 : (l.map (·.1)).take (strValues l).length = l.map (·.1) := List.take_of_length_le (by simp [strValues])
        rw [e9] at hJ2
        simpa [hkn] using hJ2
  · rintro ⟨⟨vs⟩, k, u1, u2, u3⟩ h5 tk5 ⟨hsz, hJ⟩ F5 N5
    change Fr g' L' h5 _ at F5; change News g' L' h5 _ at N5; clear F4 N4
    (try simp only [List.nil_append, List.cons_append] at N5)
    dsimp only at hsz hJ F5 N5
    (try dsimp only); (try k_fold)
    have hn : vs0.length = 22 := hrows.length
    (repeat' (first | with_reducible ((with_reducible show wpAny _ _ (binaryOp _ (Value.str _ _) (Value.str _ _)) _ _ _); ((refine PyProof.Rows.add_str ?_ (by simp only [PySem.Str.length_append]; rw [sizeLine_eq]; omega)); intro _ _)) | (k_unfold; (try dsimp only)) | (k_end; wrow_close) | walk1 | (dsimp only; walk1) | (leave1; (try dsimp only)) | fail "no step"))
    refine endO (by k_asm) (tl := [_]) (fun p hp => N5 p (by rw [List.mem_singleton.mp hp]; exact List.Mem.head _)) ⟨_, _, _, rfl, rfl, ?_⟩
    rw [hn] at hJ
    exact hJ

end
theorem tick_known : True := by first | walk1 | trivial
section
variable {w : World} {loose : List Str} {mean : ExcName → Option Value} {mg mb : Str → Option Value}
theorem strs_ne {vs : List Value} {ss : List Str} (h : StrsAre vs ss) (hn : ss ≠ []) : vs ≠ [] := fun e => by subst e; cases h; exact hn rfl
set_option maxRecDepth 100000 in
set_option maxHeartbeats 8000000 in
theorem d_limited (b : Bool) : Does w loose mean mg mb 56 2 16 (fun _ => True) [.bool b] (TupTx (if b then alwaysL else alwaysL ++ looseL)) := by
  unfold Does; k_fill; w_top off
  intro dp un gd cn cs a ccd cl outer A₀ base h₀ L m s B F X T hk hp hd hu
  refine' enter0 (binds := [(Str.ofString "is_system_missing", .bool b)]) ?dB ?dF ?dX ?dT ?dp ?dA ?df ?dke ?dof ?dcd ?droom ?dbind ?dloc ?_ ?c2 ?c3 ?c4 ?c5
  k_dflt (walk_at "d_entered")
  intro g' L' h' tk hp' F' N' B' X' T'
  (try dsimp only); k_fold
  (repeat' (first | with_reducible (k_here; (with_reducible show wpAny _ _ (call (Value.ref 49) _) _ _ _); k_dflt (refine Does.use d_loose (by k_asm) (by k_asm) (by k_asm) (by k_asm) (by k_asm) (by first | exact rfl | assumption) (by exact True.intro) (by ktr_room) (by ktr_units) ?_); intro r9 tl9 h9 tk9 P9 F9 N9 A9; k_dflt (obtain ⟨l9, vs9, k9, q1, q2, hS9⟩ := P9; subst q1; subst q2); (try simp only [List.cons_append, List.nil_append] at N9); (replace A9 := A9 _ (List.Mem.head _)); (try dsimp only); (try k_fold)) | (k_unfold; (try dsimp only)) | (k_end; wrow_close) | walk1 | (dsimp only; walk1) | (leave1; (try dsimp only)) | fail "no step"))
  · rename_i hb; subst hb
    refine endO (g := g') (by k_asm) (by k_asm) ⟨_, _, _, rfl, rfl, .cons _ _ (.cons _ _ .nil)⟩
  · (rename StrsAre _ _ => hS8)
    k_dflt (refine' kde_addT ?F ?N ?a ?b ?v ?w ?z ?e ?_)
    (case F => k_asm); (case N => k_asm); (case a => exact News.isTup (by k_asm) (by k_mem)); (case b => exact News.isTup (by k_asm) (by k_mem)); (case v => exact List.cons_ne_nil _ _); (case w => exact strs_ne hS8 (by decide)); (case z => (have q8 := hS8.length; rw [q8]; exact Nat.le_of_ble_eq_true rfl)); (case e => exact rfl)
    intro D' h' F' N' l1
    refine endO (by k_asm) (tl := [_]) (fun p hp => N' p (by rw [List.mem_singleton.mp hp]; exact List.Mem.head _)) ⟨_, _, _, rfl, rfl, ?_⟩
    (rename b = false => hb); subst hb
    exact StrsAre.append' (.cons _ _ (.cons _ _ .nil)) hS8

end
theorem tick_limited : True := by first | walk1 | trivial
section
variable {w : World} {loose : List Str} {mean : ExcName → Option Value} {mg mb : Str → Option Value}
noncomputable def optV : Option Str → Tok → Value
  | none, _ => .none
  | some x, t => .str x t
noncomputable def htmlS : Str := Str.ofString "html"
noncomputable def anyStart (x : Str) (ss : List Str) : Bool := ss.any fun b => Txt.startswith x b
noncomputable def quirkyP (x : Str) (sy : Option Str) : Bool := wholesL.contains x || (sy.isNone && anyStart x looseL) || anyStart x publicL
noncomputable def quirkyB (n p sy : Option Str) (iq : Bool) : Bool := iq || decide (n ≠ some htmlS) || decide (sy = some ibmS) || (match p with | none => false | some x => quirkyP x sy)
section
variable {n x sy : Str} {on op os : Option Str} {iq : Bool}
theorem qb_iq (h : iq = true) : true = quirkyB on op os iq := by simp [quirkyB, h]
theorem qb_noname : true = quirkyB none op os iq := by simp [quirkyB]
theorem qb_name (h : (n != Str.ofString "html") = true) : true = quirkyB (some n) op os iq := by
  have : n ≠ htmlS := by simpa [htmlS] using h
  simp [quirkyB, this]
theorem qb_sys (h : (sy == Str.ofString "http://www.ibm.com/data/dtd/v11/ibmxhtml1-transitional.dtd") = true) : true = quirkyB on op (some sy) iq := by
  have : sy = ibmS := by simpa [ibmS] using h
  simp [quirkyB, this]
def NoSys (os : Option Str) : Prop := os ≠ some ibmS
theorem nosys_some (h : (sy == Str.ofString "http://www.ibm.com/data/dtd/v11/ibmxhtml1-transitional.dtd") = false) : NoSys (some sy) := by
  intro e
  have e' : sy = ibmS := Option.some.inj e
  subst e'
  exact absurd h (by rw [show (ibmS == Str.ofString "http://www.ibm.com/data/dtd/v11/ibmxhtml1-transitional.dtd") = true from beq_self_eq_true _]; decide)
theorem nosys_none : NoSys none := fun e => nomatch e
theorem qb_rest (h1 : iq = false) (h2 : (n != Str.ofString "html") = false) (h3 : NoSys os) : quirkyB (some n) op os iq = (match op with | none => false | some x => quirkyP x os) := by
  have e : n = htmlS := by simpa [htmlS] using h2
  have h3' : os ≠ some ibmS := h3
  unfold quirkyB
  simp [h1, e, h3']
theorem qb_nopub (h1 : iq = false) (h2 : (n != Str.ofString "html") = false) (h3 : NoSys os) : false = quirkyB (some n) none os iq := by rw [qb_rest h1 h2 h3]
noncomputable abbrev InWholes (x : Str) : Bool := [Str.ofString "-//w3o//dtd w3 html strict 3.0//en//", Str.ofString "-/w3c/dtd html 4.0 transitional/en", Str.ofString "html"].any fun y => y == x
theorem wholes_in (x : Str) : wholesL.contains x = InWholes x := by
  unfold InWholes wholesL
  rw [List.contains_eq_any_beq]
  congr 1
  funext y
  exact Bool.beq_comm ..
theorem qb_whole (h1 : iq = false) (h2 : (n != Str.ofString "html") = false) (h3 : NoSys os) (h4 : InWholes x = true) : true = quirkyB (some n) (some x) os iq := by
  rw [qb_rest h1 h2 h3]; simp only [quirkyP, wholes_in, h4, Bool.true_or]
theorem qb_loose (h1 : iq = false) (h2 : (n != Str.ofString "html") = false) (h5 : (looseL.any fun b => Txt.startswith x b) = true) : true = quirkyB (some n) (some x) none iq := by
  rw [qb_rest h1 h2 nosys_none]; simp only [quirkyP, anyStart, h5, Option.isNone_none, Bool.true_and, Bool.or_true, Bool.true_or]
theorem qb_last_some (h1 : iq = false) (h2 : (n != Str.ofString "html") = false) (h3 : NoSys (some sy)) (h4 : InWholes x = false) : (publicL.any fun b => Txt.startswith x b) = quirkyB (some n) (some x) (some sy) iq := by
  rw [qb_rest h1 h2 h3]; simp only [quirkyP, anyStart, wholes_in, h4, Option.isNone_some, Bool.false_and, Bool.false_or]
theorem qb_last_none (h1 : iq = false) (h2 : (n != Str.ofString "html") = false) (h4 : InWholes x = false) (h5 : (looseL.any fun b => Txt.startswith x b) = false) : (publicL.any fun b => Txt.startswith x b) = quirkyB (some n) (some x) none iq := by
  rw [qb_rest h1 h2 nosys_none]; simp only [quirkyP, anyStart, wholes_in, h4, h5, Option.isNone_none, Bool.true_and, Bool.false_or]
end
set_option maxRecDepth 100000 in
set_option maxHeartbeats 8000000 in
theorem d_quirky (n x sy : Option Str) (tn tx ts : Tok) (iq : Bool) : Does w loose mean mg mb 70 3 24 (fun _ => True) [optV n tn, optV x tx, optV sy ts, .bool iq] (justV fun _ => .bool (quirkyB n x sy iq)) := by
  unfold Does; k_fill; w_top off
  intro dp un gd cn cs a ccd cl outer A₀ base h₀ L m s B F X T hk hp hd hu
  refine' enter0 (binds := [(Str.ofString "name", optV n tn), (Str.ofString "public", optV x tx), (Str.ofString "system", optV sy ts), (Str.ofString "is_quirks", .bool iq)]) ?dB ?dF ?dX ?dT ?dp ?dA ?df ?dke ?dof ?dcd ?droom ?dbind ?dloc ?_ ?c2 ?c3 ?c4 ?c5
  k_dflt (walk_at "d_entered")
  intro g' L' h' tk hp' F' N' B' X' T'
  rcases n with _ | n <;> rcases x with _ | x <;> rcases sy with _ | sy <;> simp only [optV] at F' ⊢
  all_goals ((try dsimp only); k_fold; (repeat' (first | with_reducible (k_here; (with_reducible show wpAny _ _ (call (Value.ref 63) _) _ _ _); (with_reducible rename StrsAre _ _ => hS8); k_dflt (refine Does.useV (d_starts_with _ _ _ _ _ hS8) (by k_asm) (by k_asm) (by k_asm) (by k_asm) (by k_asm) (by first | exact rfl | assumption) (by exact News.isTup (by k_asm) (by k_mem)) (by ktr_room) (by ktr_units) ?_); intro t9 h9 tk9 F9 N9; (try dsimp only); (try k_fold)) | with_reducible (k_here; (with_reducible show wpAny _ _ (call (Value.ref 42) _) _ _ _); k_dflt (refine Does.use d_public_starts (by k_asm) (by k_asm) (by k_asm) (by k_asm) (by k_asm) (by first | exact rfl | assumption) (by exact True.intro) (by ktr_room) (by ktr_units) ?_); intro r9 tl9 h9 tk9 P9 F9 N9 A9; k_dflt (obtain ⟨l9, ⟨vs9⟩, k9, q1, q2, hS9⟩ := P9; subst q1; subst q2); (try simp only [List.cons_append, List.nil_append] at N9); (replace A9 := A9 _ (List.Mem.head _)); (try dsimp only); (try k_fold)) | with_reducible (k_here; (with_reducible show wpAny _ _ (call (Value.ref 49) _) _ _ _); k_dflt (refine Does.use d_loose (by k_asm) (by k_asm) (by k_asm) (by k_asm) (by k_asm) (by first | exact rfl | assumption) (by exact True.intro) (by ktr_room) (by ktr_units) ?_); intro r9 tl9 h9 tk9 P9 F9 N9 A9; k_dflt (obtain ⟨l9, ⟨vs9⟩, k9, q1, q2, hS9⟩ := P9; subst q1; subst q2); (try simp only [List.cons_append, List.nil_append] at N9); (replace A9 := A9 _ (List.Mem.head _)); (try dsimp only); (try k_fold)) | (k_unfold; (try dsimp only)) | (k_end; wrow_close) | walk1 | (dsimp only; walk1) | (leave1; (try dsimp only)) | fail "no step")))
  all_goals ((refine endB (by k_asm) ?_; first | exact qb_iq (by assumption) | exact qb_noname | exact qb_name (by assumption) | exact qb_sys (by assumption) | exact qb_nopub (by assumption) (by assumption) nosys_none | exact qb_nopub (by assumption) (by assumption) (nosys_some (by assumption)) | exact qb_whole (by assumption) (by assumption) nosys_none (by assumption) | exact qb_whole (by assumption) (by assumption) (nosys_some (by assumption)) (by assumption) | exact qb_loose (by assumption) (by assumption) (by assumption) | exact qb_last_none (by assumption) (by assumption) (by assumption) (by assumption) | exact qb_last_some (by assumption) (by assumption) (nosys_some (by assumption)) (by assumption)))

end
theorem tick_quirky : True := by first | walk1 | trivial
section
variable {w : World} {loose : List Str} {mean : ExcName → Option Value} {mg mb : Str → Option Value}
noncomputable def modeS (quirky : Bool) (p : Option Str) (sy : Option Str) : Str := if quirky then Str.ofString "quirks" else if (match p with | none => false | some x => anyStart x (if sy.isNone then alwaysL else alwaysL ++ looseL)) then Str.ofString "limited-quirks" else Str.ofString "no-quirks"
noncomputable def modeOf (n p sy : Option Str) (iq : Bool) : Str := modeS (quirkyB n (p.map foldS) (sy.map foldS) iq) (p.map foldS) (sy.map foldS)
/- the token: a tuple of five -/
noncomputable def tokV (n p sy : Option Str) (tn tp ts t0 : Tok) (iq : Bool) : List Value := [.str (Str.ofString "doctype") t0, optV n tn, optV p tp, optV sy ts, .bool iq]
theorem foldS_size (x : Str) : (foldS x).cps.size = x.cps.size := by simp [foldS]
theorem d_quirky_nn (n : Option Str) (tn : Tok) (iq : Bool) : Does w loose mean mg mb 70 3 24 (fun _ => True) [optV n tn, .none, .none, .bool iq] (justV fun _ => .bool (quirkyB n none none iq)) := d_quirky n none none tn 0 0 iq
theorem d_quirky_ns (n : Option Str) (y : Str) (tn ty : Tok) (iq : Bool) : Does w loose mean mg mb 70 3 24 (fun _ => True) [optV n tn, .none, .str y ty, .bool iq] (justV fun _ => .bool (quirkyB n none (some y) iq)) := d_quirky n none (some y) tn 0 ty iq
theorem d_quirky_sn (n : Option Str) (x : Str) (tn tx : Tok) (iq : Bool) : Does w loose mean mg mb 70 3 24 (fun _ => True) [optV n tn, .str x tx, .none, .bool iq] (justV fun _ => .bool (quirkyB n (some x) none iq)) := d_quirky n (some x) none tn tx 0 iq
theorem d_quirky_ss (n : Option Str) (x y : Str) (tn tx ty : Tok) (iq : Bool) : Does w loose mean mg mb 70 3 24 (fun _ => True) [optV n tn, .str x tx, .str y ty, .bool iq] (justV fun _ => .bool (quirkyB n (some x) (some y) iq)) := d_quirky n (some x) (some y) tn tx ty iq
section
variable {n sy : Option Str} {x y : Str} {iq : Bool}
noncomputable abbrev Lim (x : Str) (b : Bool) : Bool := (if b = true then alwaysL else alwaysL ++ looseL).any fun z => Txt.startswith x z
theorem mode_eq (p : Option Str) : modeOf n p sy iq = modeS (quirkyB n (p.map foldS) (sy.map foldS) iq) (p.map foldS) (sy.map foldS) := rfl
theorem md_q1 (h : quirkyB n none none iq = true) : Str.ofString "quirks" = modeOf n none none iq := by unfold modeOf modeS; simp only [Option.map_none, h, if_true]
theorem md_q2 (h : quirkyB n none (some (foldS y)) iq = true) : Str.ofString "quirks" = modeOf n none (some y) iq := by unfold modeOf modeS; simp only [Option.map_none, Option.map_some, h, if_true]
theorem md_q3 (h : quirkyB n (some (foldS x)) none iq = true) : Str.ofString "quirks" = modeOf n (some x) none iq := by unfold modeOf modeS; simp only [Option.map_none, Option.map_some, h, if_true]
theorem md_q4 (h : quirkyB n (some (foldS x)) (some (foldS y)) iq = true) : Str.ofString "quirks" = modeOf n (some x) (some y) iq := by unfold modeOf modeS; simp only [Option.map_some, h, if_true]
theorem md_n1 (h : quirkyB n none none iq = false) : Str.ofString "no-quirks" = modeOf n none none iq := by unfold modeOf modeS; simp only [Option.map_none, h, Bool.false_eq_true, if_false]
theorem md_n2 (h : quirkyB n none (some (foldS y)) iq = false) : Str.ofString "no-quirks" = modeOf n none (some y) iq := by unfold modeOf modeS; simp only [Option.map_none, Option.map_some, h, Bool.false_eq_true, if_false]
theorem md_3 (h : quirkyB n (some (foldS x)) none iq = false) {b : Bool} (h2 : Lim (foldS x) true = b) : (if b then Str.ofString "limited-quirks" else Str.ofString "no-quirks") = modeOf n (some x) none iq := by
  subst h2; unfold modeOf modeS; simp only [Option.map_none, Option.map_some, h, Bool.false_eq_true, if_false]; rfl
theorem md_4 (h : quirkyB n (some (foldS x)) (some (foldS y)) iq = false) {b : Bool} (h2 : Lim (foldS x) false = b) : (if b then Str.ofString "limited-quirks" else Str.ofString "no-quirks") = modeOf n (some x) (some y) iq := by
  subst h2; unfold modeOf modeS; simp only [Option.map_some, h, Bool.false_eq_true, if_false]; rfl
end
set_option maxRecDepth 100000 in
set_option maxHeartbeats 8000000 in
theorem d_quirks_of (l : Addr) (n x sy : Option Str) (tn tx ts t0 : Tok) (iq : Bool) (hx : ∀ z, x = some z → z.cps.size ≤ 1000) (hs : ∀ z, sy = some z → z.cps.size ≤ 1000) : Does w loose mean mg mb 77 4 32 (fun h => h.IsTuple l (tokV n x sy tn tx ts t0 iq).toArray) [.ref l] (justV fun t => .str (modeOf n x sy iq) t) := by
  unfold Does; k_fill; w_top off
  intro dp un gd cn cs a ccd cl outer A₀ base h₀ L m s B F X T hk hp hd hu
  refine' enter0 (binds := [(Str.ofString "token", .ref l)]) ?dB ?dF ?dX ?dT ?dp ?dA ?df ?dke ?dof ?dcd ?droom ?dbind ?dloc ?_ ?c2 ?c3 ?c4 ?c5
  k_dflt (walk_at "d_entered")
  intro g' L' h' tk hp' F' N' B' X' T'
  have hT : IsTup g' l (tokV n x sy tn tx ts t0 iq).toArray := hp'
  clear hp'
  rcases x with _ | x <;> rcases sy with _ | sy <;> simp only [optV, tokV] at hT
  all_goals ((try dsimp only); (try k_fold))
  · (repeat' (first | with_reducible (k_here; (with_reducible show wpAny _ _ (call (Value.ref 63) _) _ _ _); (with_reducible rename StrsAre _ _ => hS8); k_dflt (refine Does.useV (d_starts_with _ _ _ _ _ hS8) (by k_asm) (by k_asm) (by k_asm) (by k_asm) (by k_asm) (by first | exact rfl | assumption) (by exact News.isTup (by k_asm) (by k_mem)) (by ktr_room) (by ktr_units) ?_); intro t9 h9 tk9 F9 N9; (try dsimp only); (try k_fold)) | with_reducible (k_here; (with_reducible show wpAny _ _ (call (Value.ref 56) _) _ _ _); k_dflt (refine Does.use (d_limited _) (by k_asm) (by k_asm) (by k_asm) (by k_asm) (by k_asm) (by first | exact rfl | assumption) (by exact True.intro) (by ktr_room) (by ktr_units) ?_); intro r9 tl9 h9 tk9 P9 F9 N9 A9; k_dflt (obtain ⟨l9, ⟨vs9⟩, k9, q1, q2, hS9⟩ := P9; subst q1; subst q2); (try simp only [List.cons_append, List.nil_append] at N9); (replace A9 := A9 _ (List.Mem.head _)); (try dsimp only); (try k_fold)) | with_reducible (k_here; (with_reducible show wpAny _ _ (call (Value.ref 70) _) _ _ _); k_dflt (first | refine Does.useV (d_quirky_nn _ _ _) (by k_asm) (by k_asm) (by k_asm) (by k_asm) (by k_asm) (by first | exact rfl | assumption) (by exact True.intro) (by ktr_room) (by ktr_units) ?_ | refine Does.useV (d_quirky_ns _ _ _ _ _) (by k_asm) (by k_asm) (by k_asm) (by k_asm) (by k_asm) (by first | exact rfl | assumption) (by exact True.intro) (by ktr_room) (by ktr_units) ?_ | refine Does.useV (d_quirky_sn _ _ _ _ _) (by k_asm) (by k_asm) (by k_asm) (by k_asm) (by k_asm) (by first | exact rfl | assumption) (by exact True.intro) (by ktr_room) (by ktr_units) ?_ | refine Does.useV (d_quirky_ss _ _ _ _ _ _ _) (by k_asm) (by k_asm) (by k_asm) (by k_asm) (by k_asm) (by first | exact rfl | assumption) (by exact True.intro) (by ktr_room) (by ktr_units) ?_); intro t9 h9 tk9 F9 N9; (try dsimp only); (try k_fold)) | with_reducible ((with_reducible show wpAny _ _ (subscriptTail _ _ (Value.ref _) (Value.int _ _)) _ _ _); (k_here; (rename IsTup _ _ _ => hT8); k_dflt (refine item_tupleT (by exact Fr.tup (by k_asm) hT8) (by decide) (by decide) (by exact rfl) (by exact rfl) ?_; k_whole))) | with_reducible (k_here; (with_reducible show wpAny _ _ (call (Value.ref 35) _) _ _ _); k_dflt (refine Does.useV (d_lower_text _ _ (by assumption)) (by k_asm) (by k_asm) (by k_asm) (by k_asm) (by k_asm) (by first | exact rfl | assumption) (by exact True.intro) (by ktr_room) (by ktr_units) ?_); intro t9 h9 tk9 F9 N9; (try dsimp only); (try k_fold)) | (k_unfold; (try dsimp only)) | (k_end; wrow_close) | walk1 | (dsimp only; walk1) | (leave1; (try dsimp only)) | fail "no step"))
    all_goals ((refine endS (by k_asm) ?_; first | exact md_q1 (by assumption) | exact md_q2 (by assumption) | exact md_q3 (by assumption) | exact md_q4 (by assumption) | exact md_n1 (by assumption) | exact md_n2 (by assumption) | exact md_3 (by assumption) (b := true) (by assumption) | exact md_3 (by assumption) (b := false) (by assumption) | exact md_4 (by assumption) (b := true) (by assumption) | exact md_4 (by assumption) (b := false) (by assumption)))
  · (have hss := hs _ rfl)
    (repeat' (first | with_reducible (k_here; (with_reducible show wpAny _ _ (call (Value.ref 63) _) _ _ _); (with_reducible rename StrsAre _ _ => hS8); k_dflt (refine Does.useV (d_starts_with _ _ _ _ _ hS8) (by k_asm) (by k_asm) (by k_asm) (by k_asm) (by k_asm) (by first | exact rfl | assumption) (by exact News.isTup (by k_asm) (by k_mem)) (by ktr_room) (by ktr_units) ?_); intro t9 h9 tk9 F9 N9; (try dsimp only); (try k_fold)) | with_reducible (k_here; (with_reducible show wpAny _ _ (call (Value.ref 56) _) _ _ _); k_dflt (refine Does.use (d_limited _) (by k_asm) (by k_asm) (by k_asm) (by k_asm) (by k_asm) (by first | exact rfl | assumption) (by exact True.intro) (by ktr_room) (by ktr_units) ?_); intro r9 tl9 h9 tk9 P9 F9 N9 A9; k_dflt (obtain ⟨l9, ⟨vs9⟩, k9, q1, q2, hS9⟩ := P9; subst q1; subst q2); (try simp only [List.cons_append, List.nil_append] at N9); (replace A9 := A9 _ (List.Mem.head _)); (try dsimp only); (try k_fold)) | with_reducible (k_here; (with_reducible show wpAny _ _ (call (Value.ref 70) _) _ _ _); k_dflt (first | refine Does.useV (d_quirky_nn _ _ _) (by k_asm) (by k_asm) (by k_asm) (by k_asm) (by k_asm) (by first | exact rfl | assumption) (by exact True.intro) (by ktr_room) (by ktr_units) ?_ | refine Does.useV (d_quirky_ns _ _ _ _ _) (by k_asm) (by k_asm) (by k_asm) (by k_asm) (by k_asm) (by first | exact rfl | assumption) (by exact True.intro) (by ktr_room) (by ktr_units) ?_ | refine Does.useV (d_quirky_sn _ _ _ _ _) (by k_asm) (by k_asm) (by k_asm) (by k_asm) (by k_asm) (by first | exact rfl | assumption) (by exact True.intro) (by ktr_room) (by ktr_units) ?_ | refine Does.useV (d_quirky_ss _ _ _ _ _ _ _) (by k_asm) (by k_asm) (by k_asm) (by k_asm) (by k_asm) (by first | exact rfl | assumption) (by exact True.intro) (by ktr_room) (by ktr_units) ?_); intro t9 h9 tk9 F9 N9; (try dsimp only); (try k_fold)) | with_reducible ((with_reducible show wpAny _ _ (subscriptTail _ _ (Value.ref _) (Value.int _ _)) _ _ _); (k_here; (rename IsTup _ _ _ => hT8); k_dflt (refine item_tupleT (by exact Fr.tup (by k_asm) hT8) (by decide) (by decide) (by exact rfl) (by exact rfl) ?_; k_whole))) | with_reducible (k_here; (with_reducible show wpAny _ _ (call (Value.ref 35) _) _ _ _); k_dflt (refine Does.useV (d_lower_text _ _ (by assumption)) (by k_asm) (by k_asm) (by k_asm) (by k_asm) (by k_asm) (by first | exact rfl | assumption) (by exact True.intro) (by ktr_room) (by ktr_units) ?_); intro t9 h9 tk9 F9 N9; (try dsimp only); (try k_fold)) | (k_unfold; (try dsimp only)) | (k_end; wrow_close) | walk1 | (dsimp only; walk1) | (leave1; (try dsimp only)) | fail "no step"))
    all_goals ((refine endS (by k_asm) ?_; first | exact md_q1 (by assumption) | exact md_q2 (by assumption) | exact md_q3 (by assumption) | exact md_q4 (by assumption) | exact md_n1 (by assumption) | exact md_n2 (by assumption) | exact md_3 (by assumption) (b := true) (by assumption) | exact md_3 (by assumption) (b := false) (by assumption) | exact md_4 (by assumption) (b := true) (by assumption) | exact md_4 (by assumption) (b := false) (by assumption)))
  · (have hxx := hx _ rfl)
    (repeat' (first | with_reducible (k_here; (with_reducible show wpAny _ _ (call (Value.ref 63) _) _ _ _); (with_reducible rename StrsAre _ _ => hS8); k_dflt (refine Does.useV (d_starts_with _ _ _ _ _ hS8) (by k_asm) (by k_asm) (by k_asm) (by k_asm) (by k_asm) (by first | exact rfl | assumption) (by exact News.isTup (by k_asm) (by k_mem)) (by ktr_room) (by ktr_units) ?_); intro t9 h9 tk9 F9 N9; (try dsimp only); (try k_fold)) | with_reducible (k_here; (with_reducible show wpAny _ _ (call (Value.ref 56) _) _ _ _); k_dflt (refine Does.use (d_limited _) (by k_asm) (by k_asm) (by k_asm) (by k_asm) (by k_asm) (by first | exact rfl | assumption) (by exact True.intro) (by ktr_room) (by ktr_units) ?_); intro r9 tl9 h9 tk9 P9 F9 N9 A9; k_dflt (obtain ⟨l9, ⟨vs9⟩, k9, q1, q2, hS9⟩ := P9; subst q1; subst q2); (try simp only [List.cons_append, List.nil_append] at N9); (replace A9 := A9 _ (List.Mem.head _)); (try dsimp only); (try k_fold)) | with_reducible (k_here; (with_reducible show wpAny _ _ (call (Value.ref 70) _) _ _ _); k_dflt (first | refine Does.useV (d_quirky_nn _ _ _) (by k_asm) (by k_asm) (by k_asm) (by k_asm) (by k_asm) (by first | exact rfl | assumption) (by exact True.intro) (by ktr_room) (by ktr_units) ?_ | refine Does.useV (d_quirky_ns _ _ _ _ _) (by k_asm) (by k_asm) (by k_asm) (by k_asm) (by k_asm) (by first | exact rfl | assumption) (by exact True.intro) (by ktr_room) (by ktr_units) ?_ | refine Does.useV (d_quirky_sn _ _ _ _ _) (by k_asm) (by k_asm) (by k_asm) (by k_asm) (by k_asm) (by first | exact rfl | assumption) (by exact True.intro) (by ktr_room) (by ktr_units) ?_ | refine Does.useV (d_quirky_ss _ _ _ _ _ _ _) (by k_asm) (by k_asm) (by k_asm) (by k_asm) (by k_asm) (by first | exact rfl | assumption) (by exact True.intro) (by ktr_room) (by ktr_units) ?_); intro t9 h9 tk9 F9 N9; (try dsimp only); (try k_fold)) | with_reducible ((with_reducible show wpAny _ _ (subscriptTail _ _ (Value.ref _) (Value.int _ _)) _ _ _); (k_here; (rename IsTup _ _ _ => hT8); k_dflt (refine item_tupleT (by exact Fr.tup (by k_asm) hT8) (by decide) (by decide) (by exact rfl) (by exact rfl) ?_; k_whole))) | with_reducible (k_here; (with_reducible show wpAny _ _ (call (Value.ref 35) _) _ _ _); k_dflt (refine Does.useV (d_lower_text _ _ (by assumption)) (by k_asm) (by k_asm) (by k_asm) (by k_asm) (by k_asm) (by first | exact rfl | assumption) (by exact True.intro) (by ktr_room) (by ktr_units) ?_); intro t9 h9 tk9 F9 N9; (try dsimp only); (try k_fold)) | (k_unfold; (try dsimp only)) | (k_end; wrow_close) | walk1 | (dsimp only; walk1) | (leave1; (try dsimp only)) | fail "no step"))
    all_goals ((refine endS (by k_asm) ?_; first | exact md_q1 (by assumption) | exact md_q2 (by assumption) | exact md_q3 (by assumption) | exact md_q4 (by assumption) | exact md_n1 (by assumption) | exact md_n2 (by assumption) | exact md_3 (by assumption) (b := true) (by assumption) | exact md_3 (by assumption) (b := false) (by assumption) | exact md_4 (by assumption) (b := true) (by assumption) | exact md_4 (by assumption) (b := false) (by assumption)))
  · (have hxx := hx _ rfl); (have hss := hs _ rfl)
    (repeat' (first | with_reducible (k_here; (with_reducible show wpAny _ _ (call (Value.ref 63) _) _ _ _); (with_reducible rename StrsAre _ _ => hS8); k_dflt (refine Does.useV (d_starts_with _ _ _ _ _ hS8) (by k_asm) (by k_asm) (by k_asm) (by k_asm) (by k_asm) (by first | exact rfl | assumption) (by exact News.isTup (by k_asm) (by k_mem)) (by ktr_room) (by ktr_units) ?_); intro t9 h9 tk9 F9 N9; (try dsimp only); (try k_fold)) | with_reducible (k_here; (with_reducible show wpAny _ _ (call (Value.ref 56) _) _ _ _); k_dflt (refine Does.use (d_limited _) (by k_asm) (by k_asm) (by k_asm) (by k_asm) (by k_asm) (by first | exact rfl | assumption) (by exact True.intro) (by ktr_room) (by ktr_units) ?_); intro r9 tl9 h9 tk9 P9 F9 N9 A9; k_dflt (obtain ⟨l9, ⟨vs9⟩, k9, q1, q2, hS9⟩ := P9; subst q1; subst q2); (try simp only [List.cons_append, List.nil_append] at N9); (replace A9 := A9 _ (List.Mem.head _)); (try dsimp only); (try k_fold)) | with_reducible (k_here; (with_reducible show wpAny _ _ (call (Value.ref 70) _) _ _ _); k_dflt (first | refine Does.useV (d_quirky_nn _ _ _) (by k_asm) (by k_asm) (by k_asm) (by k_asm) (by k_asm) (by first | exact rfl | assumption) (by exact True.intro) (by ktr_room) (by ktr_units) ?_ | refine Does.useV (d_quirky_ns _ _ _ _ _) (by k_asm) (by k_asm) (by k_asm) (by k_asm) (by k_asm) (by first | exact rfl | assumption) (by exact True.intro) (by ktr_room) (by ktr_units) ?_ | refine Does.useV (d_quirky_sn _ _ _ _ _) (by k_asm) (by k_asm) (by k_asm) (by k_asm) (by k_asm) (by first | exact rfl | assumption) (by exact True.intro) (by ktr_room) (by ktr_units) ?_ | refine Does.useV (d_quirky_ss _ _ _ _ _ _ _) (by k_asm) (by k_asm) (by k_asm) (by k_asm) (by k_asm) (by first | exact rfl | assumption) (by exact True.intro) (by ktr_room) (by ktr_units) ?_); intro t9 h9 tk9 F9 N9; (try dsimp only); (try k_fold)) | with_reducible ((with_reducible show wpAny _ _ (subscriptTail _ _ (Value.ref _) (Value.int _ _)) _ _ _); (k_here; (rename IsTup _ _ _ => hT8); k_dflt (refine item_tupleT (by exact Fr.tup (by k_asm) hT8) (by decide) (by decide) (by exact rfl) (by exact rfl) ?_; k_whole))) | with_reducible (k_here; (with_reducible show wpAny _ _ (call (Value.ref 35) _) _ _ _); k_dflt (refine Does.useV (d_lower_text _ _ (by assumption)) (by k_asm) (by k_asm) (by k_asm) (by k_asm) (by k_asm) (by first | exact rfl | assumption) (by exact True.intro) (by ktr_room) (by ktr_units) ?_); intro t9 h9 tk9 F9 N9; (try dsimp only); (try k_fold)) | (k_unfold; (try dsimp only)) | (k_end; wrow_close) | walk1 | (dsimp only; walk1) | (leave1; (try dsimp only)) | fail "no step"))
    all_goals ((refine endS (by k_asm) ?_; first | exact md_q1 (by assumption) | exact md_q2 (by assumption) | exact md_q3 (by assumption) | exact md_q4 (by assumption) | exact md_n1 (by assumption) | exact md_n2 (by assumption) | exact md_3 (by assumption) (b := true) (by assumption) | exact md_3 (by assumption) (b := false) (by assumption) | exact md_4 (by assumption) (b := true) (by assumption) | exact md_4 (by assumption) (b := false) (by assumption)))

end
theorem tick_quirksof : True := by first | walk1 | trivial
section
variable {w : World} {loose : List Str} {mean : ExcName → Option Value} {mg mb : Str → Option Value}
noncomputable def legacyS : Str := Str.ofString "about:legacy-compat"
noncomputable def rightB (n p sy : Option Str) : Bool := decide (n = some htmlS) && p.isNone && (sy.isNone || decide (sy = some legacyS))
section
variable {n x y : Str} {op os : Option Str} {b : Bool}
theorem rt_noname : false = rightB none op os := by simp [rightB]
theorem rt_name (h : (n == Str.ofString "html") = false) : false = rightB (some n) op os := by
  have : n ≠ htmlS := by simpa [htmlS] using h
  simp [rightB, this]
theorem rt_name' (h : (n == Str.ofString "html") = false) : (n == Str.ofString "html") = rightB (some n) op os := by rw [h]; exact rt_name h
theorem rt_pub (_h : (n == Str.ofString "html") = true) : false = rightB (some n) (some x) os := by simp [rightB]
theorem rt_none (h : (n == Str.ofString "html") = true) : true = rightB (some n) none none := by
  have : n = htmlS := by simpa [htmlS] using h
  simp [rightB, this]
theorem rt_some (h : (n == Str.ofString "html") = true) : (y == Str.ofString "about:legacy-compat") = rightB (some n) none (some y) := by
  have : n = htmlS := by simpa [htmlS] using h
  have e : (y == Str.ofString "about:legacy-compat") = decide (y = legacyS) := by
    rw [Bool.eq_iff_iff, decide_eq_true_iff]; simp [legacyS]
  rw [e]
  simp [rightB, this]
end
set_option maxRecDepth 100000 in
set_option maxHeartbeats 8000000 in
theorem d_right (l : Addr) (n x sy : Option Str) (tn tx ts t0 : Tok) (iq : Bool) : Does w loose mean mg mb 84 1 8 (fun h => h.IsTuple l (tokV n x sy tn tx ts t0 iq).toArray) [.ref l] (justV fun _ => .bool (rightB n x sy)) := by
  unfold Does; k_fill; w_top off
  intro dp un gd cn cs a ccd cl outer A₀ base h₀ L m s B F X T hk hp hd hu
  refine' enter0 (binds := [(Str.ofString "token", .ref l)]) ?dB ?dF ?dX ?dT ?dp ?dA ?df ?dke ?dof ?dcd ?droom ?dbind ?dloc ?_ ?c2 ?c3 ?c4 ?c5
  k_dflt (walk_at "d_entered")
  intro g' L' h' tk hp' F' N' B' X' T'
  have hT : IsTup g' l (tokV n x sy tn tx ts t0 iq).toArray := hp'
  clear hp'
  rcases n with _ | n <;> rcases x with _ | x <;> rcases sy with _ | sy <;> simp only [optV, tokV] at hT
  all_goals ((try dsimp only); (try k_fold); (repeat' (first | with_reducible ((with_reducible show wpAny _ _ (subscriptTail _ _ (Value.ref _) (Value.int _ _)) _ _ _); (k_here; (rename IsTup _ _ _ => hT8); k_dflt (refine item_tupleT (by exact Fr.tup (by k_asm) hT8) (by decide) (by decide) (by exact rfl) (by exact rfl) ?_; k_whole))) | (k_unfold; (try dsimp only)) | (k_end; wrow_close) | walk1 | (dsimp only; walk1) | (leave1; (try dsimp only)) | fail "no step")))
  all_goals ((refine endB (by k_asm) ?_; first | exact rt_noname | exact rt_name (by assumption) | exact rt_name' (by assumption) | exact rt_pub (by assumption) | exact rt_none (by assumption) | exact rt_some (by assumption)))

end
theorem tick_doctype : True := by first | walk1 | trivial
section
variable {w : World} {loose : List Str} {mean : ExcName → Option Value} {mg mb : Str → Option Value}
theorem ibm_size : ibmS.cps.size ≤ 200 := by decide +kernel
theorem ibm_size2 : ibmS.cps.size ≤ 1000 := Nat.le_trans ibm_size (by decide)
set_option maxRecDepth 100000 in
set_option maxHeartbeats 8000000 in
theorem d_system (k : Int) (tk0 : Tok) (b : Int) (tb : Tok) (h0 : 0 ≤ k) (h8 : k < 8) : Does w loose mean mg mb 133 2 16 (fun _ => True) [.int k tk0, .int b tb] (fun tl r => tl = [] ∧ ∃ o t, r = optV o t ∧ ∀ z, o = some z → z.cps.size ≤ 200) := by
  unfold Does; k_fill; w_top off
  intro dp un gd cn cs a ccd cl outer A₀ base h₀ L m s B F X T hk hp hd hu
  refine' enter0 (binds := [(Str.ofString "which", .int k tk0), (Str.ofString "bits", .int b tb)]) ?dB ?dF ?dX ?dT ?dp ?dA ?df ?dke ?dof ?dcd ?droom ?dbind ?dloc ?_ ?c2 ?c3 ?c4 ?c5
  k_dflt (walk_at "d_entered")
  intro g' L' h' tk hp' F' N' B' X' T'
  (try dsimp only); k_fold
  (repeat' (first | with_reducible (k_here; (with_reducible show wpAny _ _ (call (Value.ref 119) _) _ _ _); k_dflt (refine Does.use (d_cased _ _ _ _ ibm_size2) (by k_asm) (by k_asm) (by k_asm) (by k_asm) (by k_asm) (by first | exact rfl | assumption) (by exact True.intro) (by ktr_room) (by ktr_units) ?_); intro r9 tl9 h9 tk9 P9 F9 N9 A9; obtain ⟨q1, y9, t9, q2, hy9⟩ := P9; subst q1; subst q2; (try simp only [List.cons_append, List.nil_append] at N9); clear A9; (try dsimp only); (try k_fold)) | with_reducible (k_here; (with_reducible show wpAny _ _ (call (Value.ref 112) _) _ _ _); k_dflt (refine Does.useV d_ibm (by k_asm) (by k_asm) (by k_asm) (by k_asm) (by k_asm) (by first | exact rfl | assumption) (by exact True.intro) (by ktr_room) (by ktr_units) ?_); intro t9 h9 tk9 F9 N9; (try dsimp only); (try k_fold)) | (k_unfold; (try dsimp only)) | (k_end; wrow_close) | walk1 | (dsimp only; walk1) | (leave1; (try dsimp only)) | fail "no step"))
  · refine endO (by k_asm) News.nil ?_
    refine ⟨rfl, some _, _, rfl, fun z hz => ?_⟩
    cases hz; rw [hy9]; exact ibm_size
  all_goals (refine endO (by k_asm) News.nil ?_; refine ⟨rfl, ?_⟩; first | exact ⟨none, 0, rfl, fun _ h => nomatch h⟩ | exact ⟨some _, _, rfl, fun z hz => by cases hz; decide +kernel⟩)

end
theorem tick_system : True := by first | walk1 | trivial
section
variable {w : World} {loose : List Str} {mean : ExcName → Option Value} {mg mb : Str → Option Value}
theorem join_len {y z : Str} (h : z.length = y.length) : ∀ ps : List Str, (Str.join z ps).length = (Str.join y ps).length
  | [] => rfl
  | [_] => rfl
  | a :: b :: r => by
    show (a ++ z ++ Str.join z (b :: r)).length = (a ++ y ++ Str.join y (b :: r)).length
    simp only [PySem.Str.length_append, join_len h (b :: r), h]
theorem repl_len (x : Str) (c d : Nat) : (Txt.replace x ⟨#[c]⟩ ⟨#[d]⟩).length = x.length := by
  rw [StrLaws.replace_one, join_len (z := ⟨#[d]⟩) (y := ⟨#[c]⟩) rfl, StrLaws.join_split]
theorem one_len (n : Nat) : (⟨#[n]⟩ : Str).length = 1 := rfl
theorem repl_s (x : Str) : (Txt.replace x (Str.ofString "s") (Str.ofString "ſ")).length = x.length := by
  rw [show Str.ofString "s" = ⟨#[115]⟩ from ofS ['s'], show Str.ofString "ſ" = ⟨#[383]⟩ from ofS ['ſ']]; exact repl_len ..
theorem repl_i (x : Str) : (Txt.replace x (Str.ofString "i") (Str.ofString "ı")).length = x.length := by
  rw [show Str.ofString "i" = ⟨#[105]⟩ from ofS ['i'], show Str.ofString "ı" = ⟨#[305]⟩ from ofS ['ı']]; exact repl_len ..
set_option maxRecDepth 100000 in
set_option maxHeartbeats 8000000 in
theorem d_lawpublic (x : Str) (t0 : Tok) (d : Int) (td : Tok) (b : Int) (tb : Tok) (h1 : 1 ≤ x.cps.size) (h2 : x.cps.size ≤ 100) : Does w loose mean mg mb 126 2 16 (fun _ => True) [.str x t0, .int d td, .int b tb] (fun tl r => tl = [] ∧ ∃ o t, r = optV o t ∧ ∀ z, o = some z → z.cps.size ≤ 300) := by
  unfold Does; k_fill; w_top off
  intro dp un gd cn cs a ccd cl outer A₀ base h₀ L m s B F X T hk hp hd hu
  refine' enter0 (binds := [(Str.ofString "text", .str x t0), (Str.ofString "digit", .int d td), (Str.ofString "bits", .int b tb)]) ?dB ?dF ?dX ?dT ?dp ?dA ?df ?dke ?dof ?dcd ?droom ?dbind ?dloc ?_ ?c2 ?c3 ?c4 ?c5
  k_dflt (walk_at "d_entered")
  intro g' L' h' tk hp' F' N' B' X' T'
  have hx : x.cps.size ≤ 1000 := by omega
  (try dsimp only); (try k_fold)
  have e1 : (Str.ofString "").length = 0 := by decide +kernel
  have e2 : (Str.ofString "EN").length = 2 := by decide +kernel
  have e3 : (Str.ofString "/").length = 1 := by decide +kernel
  have e4 : (Str.ofString "x//").length = 3 := by decide +kernel
  have e5 : (Str.ofString " ").length = 1 := by decide +kernel
  have hxl : x.length = x.cps.size := rfl
  have hr1 := repl_s x
  have hr2 := repl_i x
  have hr3 : (Txt.replace x (Str.ofString "s") (Str.ofString "ſ")).cps.size ≤ 1000 := by have : (Txt.replace x (Str.ofString "s") (Str.ofString "ſ")).length = (Txt.replace x (Str.ofString "s") (Str.ofString "ſ")).cps.size := rfl; omega
  have hr4 : (Txt.replace x (Str.ofString "i") (Str.ofString "ı")).cps.size ≤ 1000 := by have : (Txt.replace x (Str.ofString "i") (Str.ofString "ı")).length = (Txt.replace x (Str.ofString "i") (Str.ofString "ı")).cps.size := rfl; omega
  (repeat' (first | with_reducible ((with_reducible show wpAny _ _ (subscriptTail _ _ (Value.str _ _) (Value.ref _)) _ _ _); (k_here; k_dflt (first | refine slice_strN_ns_len (by k_asm) (by k_asm) ?_ | refine slice_strN_sn_len (by k_asm) (by k_asm) ?_); intro h' t' k' F' N' hl')) | with_reducible ((with_reducible show wpAny _ _ (binaryOp _ (Value.str _ _) (Value.str _ _)) _ _ _); ((refine PyProof.Rows.add_str ?_ (by simp only [PySem.Str.length_append]; rw [sizeLine_eq]; omega)); intro _ _)) | with_reducible ((with_reducible show wpAny _ _ (call (Value.builtin "len") [Value.str _ _]) _ _ _); (refine PyProof.Rows.len_str (by omega) ?_)) | with_reducible ((with_reducible show wpAny _ _ (call (Value.builtin "str.replace") _) _ _ _); (refine SC.replaceW (Nat.succ_ne_zero _) (Nat.succ_ne_zero _) (Nat.ne_of_lt (Nat.lt_succ_self _)) (by decide +kernel) (by omega) (by decide +kernel) ?_; intro _ _)) | with_reducible ((with_reducible show wpAny _ _ (execs (_ :: _) _) _ _ _); refine wpAny_execs_cons ?_) | with_reducible (k_here; (with_reducible show wpAny _ _ (call (Value.ref 119) _) _ _ _); k_dflt (refine Does.use (d_cased _ _ _ _ (by assumption)) (by k_asm) (by k_asm) (by k_asm) (by k_asm) (by k_asm) (by first | exact rfl | assumption) (by exact True.intro) (by ktr_room) (by ktr_units) ?_); intro r9 tl9 h9 tk9 P9 F9 N9 A9; obtain ⟨q1, y9, t9, q2, hy9⟩ := P9; subst q1; subst q2; (try simp only [List.cons_append, List.nil_append] at N9); clear A9; k_dflt (have hz9 : PySem.Str.length _ = PySem.Str.length _ := hy9); (try dsimp only); (try k_fold)) | (k_unfold; (try dsimp only)) | (k_end; wrow_close) | walk1 | (dsimp only; walk1) | (leave1; (try dsimp only)) | fail "no step"))
  all_goals (refine endO (g := g') (by k_asm) News.nil ?_; refine ⟨rfl, ?_⟩; first
    | exact ⟨none, 0, rfl, fun _ h => nomatch h⟩
    | (refine ⟨some _, _, rfl, fun z hz => ?_⟩; cases hz; show PySem.Str.length _ ≤ 300; (try simp only [PySem.Str.length_append, one_len]); omega))

end
theorem tick_lawpublic : True := by first | walk1 | trivial
section
variable {w : World} {loose : List Str} {mean : ExcName → Option Value} {mg mb : Str → Option Value}
noncomputable def digitOf (ns : List Int) (k : Int) : Int := if k < (ns.length : Int) then ns.getD k.toNat 0 else 0
theorem digit_in {ns : List Int} {k : Int} (h : k < (ns.length : Int)) : digitOf ns k = ns.getD k.toNat 0 := by unfold digitOf; rw [if_pos h]
theorem digit_out {ns : List Int} {k : Int} (h : ¬ k < (ns.length : Int)) : digitOf ns k = 0 := by unfold digitOf; rw [if_neg h]
set_option maxRecDepth 100000 in
set_option maxHeartbeats 8000000 in
theorem d_digit (l : Addr) (vs : List Value) (ns : List Int) (hi : IntsAre vs ns) (hn : ns.length ≤ 63) (k : Int) (tk0 : Tok) (h0 : 0 ≤ k) : Does w loose mean mg mb 91 1 8 (fun h => h.IsList l vs.toArray) [.ref l, .int k tk0] (justV fun t => .int (digitOf ns k) t) := by
  unfold Does; k_fill; w_top off
  intro dp un gd cn cs a ccd cl outer A₀ base h₀ L m s B F X T hk hp hd hu
  refine' enter0 (binds := [(Str.ofString "script", .ref l), (Str.ofString "place", .int k tk0)]) ?dB ?dF ?dX ?dT ?dp ?dA ?df ?dke ?dof ?dcd ?droom ?dbind ?dloc ?_ ?c2 ?c3 ?c4 ?c5
  k_dflt (walk_at "d_entered")
  intro g' L' h' tk hp' F' N' B' X' T'
  have hL : g'.IsList l vs.toArray := hp'
  clear hp'
  (try dsimp only); (try k_fold)
  k_steps
  · exact endI (by k_asm) (digit_in (by assumption)).symm
  · exact endI (by k_asm) (digit_out (by assumption)).symm

end
theorem tick_digit : True := by first | walk1 | trivial
section
variable {w : World} {loose : List Str} {mean : ExcName → Option Value} {mg mb : Str → Option Value}
section
open PySem.SeqAt
theorem isStr_nth (k : Str) : ∀ {vs : List Value} {ns : List Str}, StrsAre vs ns → ∀ (j : Nat) (h1 : j < vs.length) (h2 : j < ns.length), isStrOf k vs[j] = (ns[j] == k)
  | _, _, .cons n t _, 0, _, _ => rfl
  | _, _, .cons n t r, j + 1, h1, h2 => isStr_nth k r j (Nat.lt_of_succ_lt_succ h1) (Nat.lt_of_succ_lt_succ h2)
theorem ne_before {k : Str} : ∀ {ns : List Str} {j : Nat}, j < ns.idxOf k → ∀ (h2 : j < ns.length), (ns[j] == k) = false
  | n :: r, 0, h, _ => by
    by_cases e : n = k
    · subst e; simp at h
    · simpa using e
  | n :: r, j + 1, h, h2 => by
    by_cases e : n = k
    · subst e; simp at h
    · have hb : (n == k) = false := by simpa using e
      have h' : j < r.idxOf k := by
        rw [List.idxOf_cons, hb] at h
        exact Nat.lt_of_succ_lt_succ h
      exact ne_before h' (Nat.lt_of_succ_lt_succ h2)
theorem index_list_strs {prog : Program} {A : Around} {E : Value → Shared → Prop} {s : Shared} {l : Addr} {vs : List Value} {ns : List Str} {k : Str} {t : Tok} {Q : Value → Shared → Prop} (hl : s.heap.IsList l vs.toArray) (hi : StrsAre vs ns)
    (hb : ns.length ≤ 1000) (hk : k ∈ ns) (h : Q (.int (ns.idxOf k : Nat) s.toks) { s with toks := s.toks + 1 }) :
    wpAny (model prog w) A (call (.builtin "list.index") [.ref l, .str k t]) Q E s := by
  obtain ⟨⟨cls, dd, data, sl⟩, ho, hc, n, hd⟩ := id hl
  simp only at hc hd
  subst hc hd
  have hlen := hi.length
  have hj : ns.idxOf k < ns.length := List.idxOf_lt_length_iff.mpr hk
  refine call_meets PySem.F.slot_list_index ⟨_, ho, rfl⟩ PySem.F.entry_list_index (PySem.F.args_list_index_2 _ _)
    (list_indexAt l vs.toArray n dd sl (.str k t) (isStrOf k) (ns.idxOf k) (by simpa [hlen] using hj) (by omega) ?_ ?_) ⟨ho, fun y hy => (eq_isStrOf k t hi y (by simpa using hy)).at _ _, h⟩
  · show isStrOf k vs[ns.idxOf k] = true
    rw [isStr_nth k hi _ (by omega) hj]
    simpa using List.getElem_idxOf hj
  · intro j hjs hlt
    show isStrOf k vs[j] = false
    rw [isStr_nth k hi j (by simpa using hjs) (by omega)]
    exact ne_before hlt _
end

end
theorem tick_rules : True := by first | walk1 | trivial
section
variable {w : World} {loose : List Str} {mean : ExcName → Option Value} {mg mb : Str → Option Value}
noncomputable def piecesL (W : Str) : List Str := Txt.split W slashes
noncomputable def begunS (W : Str) : Str := Str.join slashes ((piecesL W).take 3) ++ slashes
noncomputable def kindS (W : Str) : Int := if wholesL.any (· == W) = true then 1 else if ((piecesL W).length : Int) > 3 ∧ knownL.any (· == begunS W) = true then (if ((knownL.idxOf (begunS W) : Nat) : Int) < 55 then 1 else if ((knownL.idxOf (begunS W) : Nat) : Int) < 57 then 2 else 3) else 0
noncomputable def kindI : Option Str → Int
  | none => 0
  | some x => kindS (foldS x)
noncomputable def modeK (k : Int) (n sy : Option Str) (iq : Bool) : Str :=
  if iq = true ∨ n ≠ some htmlS ∨ k = 1 ∨ (k = 2 ∧ sy = none) then Str.ofString "quirks"
  else if sy.map foldS = some ibmS then Str.ofString "quirks"
  else if k > 1 then Str.ofString "limited-quirks" else Str.ofString "no-quirks"
noncomputable def lawModeB (n p sy : Option Str) (iq : Bool) : Str := modeK (kindI p) n sy iq
section
variable {W : Str} {n : Nat}
theorem kd1 (h : wholesL.any (· == W) = true) : (1 : Int) = kindS W := by unfold kindS; rw [if_pos h]
theorem kd2 (h : wholesL.any (· == W) = false) (h3 : (3 : Int) < n) (hn : n = (piecesL W).length) (hk : knownL.any (· == begunS W) = true) (hi : ((knownL.idxOf (begunS W) : Nat) : Int) < 55) : (1 : Int) = kindS W := by
  unfold kindS; rw [if_neg (by rw [h]; decide), if_pos ⟨by rw [← hn]; exact h3, hk⟩, if_pos hi]
theorem kd3 (h : wholesL.any (· == W) = false) (h3 : (3 : Int) < n) (hn : n = (piecesL W).length) (hk : knownL.any (· == begunS W) = true) (hi : ¬ ((knownL.idxOf (begunS W) : Nat) : Int) < 55) (hj : ((knownL.idxOf (begunS W) : Nat) : Int) < 57) : (2 : Int) = kindS W := by
  unfold kindS; rw [if_neg (by rw [h]; decide), if_pos ⟨by rw [← hn]; exact h3, hk⟩, if_neg hi, if_pos hj]
theorem kd4 (h : wholesL.any (· == W) = false) (h3 : (3 : Int) < n) (hn : n = (piecesL W).length) (hk : knownL.any (· == begunS W) = true) (hi : ¬ ((knownL.idxOf (begunS W) : Nat) : Int) < 55) (hj : ¬ ((knownL.idxOf (begunS W) : Nat) : Int) < 57) : (3 : Int) = kindS W := by
  unfold kindS; rw [if_neg (by rw [h]; decide), if_pos ⟨by rw [← hn]; exact h3, hk⟩, if_neg hi, if_neg hj]
theorem kd5 (h : wholesL.any (· == W) = false) (hk : knownL.any (· == begunS W) = false) : (0 : Int) = kindS W := by
  unfold kindS; rw [if_neg (by rw [h]; decide), if_neg (fun q => by rw [hk] at q; exact absurd q.2 (by decide))]
theorem kd6 (h : wholesL.any (· == W) = false) (h3 : ¬ (3 : Int) < n) (hn : n = (piecesL W).length) : (0 : Int) = kindS W := by
  unfold kindS; rw [if_neg (by rw [h]; decide), if_neg (fun q => h3 (by rw [hn]; exact q.1))]
end
section
variable {k : Int} {n y : Str} {on os : Option Str} {iq : Bool}
theorem mo1 (h : iq = true) : Str.ofString "quirks" = modeK k on os iq := by unfold modeK; rw [if_pos (.inl h)]
theorem mo2 : Str.ofString "quirks" = modeK k none os iq := by unfold modeK; rw [if_pos (.inr (.inl (by simp)))]
theorem mo3 (h : (n != Str.ofString "html") = true) : Str.ofString "quirks" = modeK k (some n) os iq := by
  unfold modeK; rw [if_pos (.inr (.inl (by simpa [htmlS] using h)))]
theorem mo4 (h : k = 1) : Str.ofString "quirks" = modeK k on os iq := by unfold modeK; rw [if_pos (.inr (.inr (.inl h)))]
theorem mo5 (h : k = 2) : Str.ofString "quirks" = modeK k on none iq := by unfold modeK; rw [if_pos (.inr (.inr (.inr ⟨h, rfl⟩)))]
theorem mo_not (h1 : iq = false) (h2 : (n != Str.ofString "html") = false) (h3 : k ≠ 1) (h4 : k ≠ 2 ∨ os ≠ none) : ¬ (iq = true ∨ some n ≠ some htmlS ∨ k = 1 ∨ (k = 2 ∧ os = none)) := by
  rintro (e | e | e | ⟨e, e'⟩)
  · rw [h1] at e; cases e
  · have : n = htmlS := by simpa [htmlS] using h2
    exact e (congrArg some this)
  · exact h3 e
  · exact h4.elim (fun q => q e) (fun q => q e')
theorem mo6 (h1 : iq = false) (h2 : (n != Str.ofString "html") = false) (h3 : k ≠ 1) (h4 : k ≠ 2) (h5 : 1 < k) : Str.ofString "limited-quirks" = modeK k (some n) none iq := by
  unfold modeK; rw [if_neg (mo_not h1 h2 h3 (.inl h4)), if_neg (by simp), if_pos h5]
theorem mo7 (h1 : iq = false) (h2 : (n != Str.ofString "html") = false) (h3 : k ≠ 1) (h4 : k ≠ 2) (h5 : ¬ 1 < k) : Str.ofString "no-quirks" = modeK k (some n) none iq := by
  unfold modeK; rw [if_neg (mo_not h1 h2 h3 (.inl h4)), if_neg (by simp), if_neg h5]
theorem mo8 (h1 : iq = false) (h2 : (n != Str.ofString "html") = false) (h3 : k ≠ 1) (h : (foldS y == ibmS) = true) : Str.ofString "quirks" = modeK k (some n) (some y) iq := by
  unfold modeK; rw [if_neg (mo_not h1 h2 h3 (.inr (by simp))), if_pos (by simpa using h)]
theorem mo9 (h1 : iq = false) (h2 : (n != Str.ofString "html") = false) (h3 : k ≠ 1) (h : (foldS y == ibmS) = false) (h5 : 1 < k) : Str.ofString "limited-quirks" = modeK k (some n) (some y) iq := by
  unfold modeK; rw [if_neg (mo_not h1 h2 h3 (.inr (by simp))), if_neg (by simpa using h), if_pos h5]
theorem mo10 (h1 : iq = false) (h2 : (n != Str.ofString "html") = false) (h3 : k ≠ 1) (h : (foldS y == ibmS) = false) (h5 : ¬ 1 < k) : Str.ofString "no-quirks" = modeK k (some n) (some y) iq := by
  unfold modeK; rw [if_neg (mo_not h1 h2 h3 (.inr (by simp))), if_neg (by simpa using h), if_neg h5]
theorem mo11 (h1 : iq = false) (h2 : (n != Str.ofString "html") = false) (h : (foldS y == ibmS) = false) (h5 : k = 2) : Str.ofString "limited-quirks" = modeK k (some n) (some y) iq :=
  mo9 h1 h2 (by omega) h (by omega)
end
theorem known_mem {k : Str} (h : knownL.any (· == k) = true) : k ∈ knownL := by
  obtain ⟨z, hz, e⟩ := List.any_eq_true.mp h
  exact (eq_of_beq e) ▸ hz

end
theorem tick_modedefs : True := by first | walk1 | trivial
section
variable {w : World} {loose : List Str} {mean : ExcName → Option Value} {mg mb : Str → Option Value}
theorem take_weigh : ∀ (l : List Str) (k : Nat), ((l.take k).map (·.length)).sum + (l.take k).length ≤ (l.map (·.length)).sum + l.length
  | _, 0 => by simp
  | [], k + 1 => by simp
  | a :: l, k + 1 => by
    have := take_weigh l k
    simp only [List.take_succ_cons, List.map_cons, List.sum_cons, List.length_cons]
    omega
def ModeMid (g : Heap) (L' : Addr) (s : Shared) (l : Addr) (k : Int) (f : Flow) (s' : Shared) : Prop :=
  f = .next ∧ ∃ h2 tk2 m2 t2, s' = { s with heap := h2, toks := tk2 } ∧ Fr g L' h2 m2 ∧ m2 (Str.ofString "token") = some (.ref l) ∧ m2 (Str.ofString "kind") = some (.int k t2)
theorem ModeMid.of {g : Heap} {L' : Addr} {s : Shared} {l : Addr} {k k' : Int} {h2 : Heap} {tk2 : Nat} {m2 : Str → Option Value} {t2 : Tok} (F : Fr g L' h2 m2) (e1 : m2 (Str.ofString "token") = some (.ref l)) (e2 : m2 (Str.ofString "kind") = some (.int k' t2)) (e : k' = k) : ModeMid g L' s l k .next { s with heap := h2, toks := tk2 } := ⟨rfl, _, _, _, _, rfl, F, e1, e ▸ e2⟩
set_option maxRecDepth 100000 in
set_option maxHeartbeats 8000000 in
theorem d_mode (lk l : Addr) (vk : List Value) (hk59 : StrsAre vk knownL) (n x sy : Option Str) (tn tx ts t0 : Tok) (iq : Bool) (hx : ∀ z, x = some z → z.cps.size ≤ 300) (hs : ∀ z, sy = some z → z.cps.size ≤ 300) : Does w loose mean mg mb 145 2 16 (fun h => (∃ k, h.get? lk = some (PySem.W.listOf vk.toArray k)) ∧ h.IsTuple l (tokV n x sy tn tx ts t0 iq).toArray) [.ref lk, .ref l] (justV fun t => .str (lawModeB n x sy iq) t) := by
  unfold Does; k_fill; w_top off
  intro dp un gd cn cs a ccd cl outer A₀ base h₀ L m s B F X T hk hp hd hu
  refine' enter0 (binds := [(Str.ofString "known", .ref lk), (Str.ofString "token", .ref l)]) ?dB ?dF ?dX ?dT ?dp ?dA ?df ?dke ?dof ?dcd ?droom ?dbind ?dloc ?_ ?c2 ?c3 ?c4 ?c5
  k_dflt (walk_at "d_entered")
  intro g' L' h' tk hp' F' N' B' X' T'
  obtain ⟨⟨kL, hLg⟩, hT0⟩ := hp'
  have hL : g'.IsList lk vk.toArray := ⟨_, hLg, rfl, _, rfl⟩
  have hLd : g'.NoDictAt (.ref lk) := ⟨_, hLg, rfl⟩
  clear hLg
  have hT : IsTup g' l (tokV n x sy tn tx ts t0 iq).toArray := hT0
  clear hT0
  iterate 5 (first | with_reducible (k_here; (with_reducible show wpAny _ _ (getMethod (Value.ref _) (PySem.Str.ofString "index") _) _ _ _); (rename PySem.Heap.IsList _ _ _ => hL8); (rename PySem.Heap.NoDictAt _ _ => hD8); (rename Fr _ _ _ _ => hF8); (refine getMethod_list_of PySem.F.slot_list_index PySem.F.type_list_index (hF8.lst hL8) (hD8.keeps hF8.keep) ?_)) | with_reducible ((with_reducible show wpAny _ _ (call (Value.builtin "list.index") _) _ _ _); (k_here; (rename StrsAre _ knownL => hk8); (rename PySem.Heap.IsList _ _ _ => hL8); (refine index_list_strs (Fr.lst (by k_asm) hL8) hk8 (by rw [known_len]; decide) (known_mem (by assumption)) ?_))) | with_reducible ((with_reducible show wpAny _ _ (compareOp CmpOp.In (Value.str _ _) (Value.ref _)) _ _ _); (k_here; (rename StrsAre _ knownL => hk8); (rename PySem.Heap.IsList _ _ _ => hL8); (refine in_list_strs (Fr.lst (by k_asm) hL8) hk8 ?_); k_whole)) | with_reducible ((with_reducible show wpAny _ _ (binaryOp _ (Value.str _ _) (Value.str _ _)) _ _ _); ((refine PyProof.Rows.add_str ?_ (by simp only [PySem.Str.length_append]; rw [sizeLine_eq]; omega)); intro _ _)) | with_reducible (k_here; (with_reducible show wpAny _ _ (call (Value.builtin _) [Value.str _ _, Value.ref _]) _ _ _); k_dflt (refine join_listW (by is_list) (by assumption) (by decide +kernel) (by assumption) ?_); intro _ _) | with_reducible (k_here; (with_reducible show wpAny _ _ (subscriptTail _ (PySem.Expr.Slice _ _ none _) (Value.ref _) (Value.ref _)) _ _ _); k_dflt (refine kmk_slice_lit (by k_asm) (by k_asm) (by kmk_list) (by kmk_part) (by kmk_part) (by assumption) ?_ (by with_unfolding_all rfl) (by kmk_pure) (by (simp only [strValues, List.size_toArray, List.length_map]; rw [sizeLine_eq]; omega))); intro D' h' F' N' l1; (try k_lt l1)) | with_reducible (k_here; (with_reducible show wpAny _ _ (call (Value.builtin _) [Value.str _ _, Value.ref _]) _ _ _); k_dflt (refine join_listW (by is_list) (by assumption) (by decide +kernel) (by assumption) ?_); intro _ _) | with_reducible (k_here; (with_reducible show wpAny _ _ (call (Value.builtin "str.split") _) _ _ _); (refine KSpl.split1 (by k_asm) (by k_asm) (by decide) ?_ (by rw [sizeLine_eq]; omega)); intro D' l' h' k' e' a' F' N' l1; (try k_lt l1)) | with_reducible ((with_reducible show wpAny _ _ (subscriptTail _ _ (Value.ref _) (Value.int _ _)) _ _ _); (k_here; (rename IsTup _ _ _ => hT8); k_dflt (refine item_tupleT (by exact Fr.tup (by k_asm) hT8) (by decide) (by decide) (by exact rfl) (by exact rfl) ?_; k_whole))) | with_reducible (k_here; (with_reducible show wpAny _ _ (call (Value.ref 105) _) _ _ _); k_dflt (refine Does.use d_wholes (by k_asm) (by k_asm) (by k_asm) (by k_asm) (by k_asm) (by first | exact rfl | assumption) (by exact True.intro) (by ktr_room) (by ktr_units) ?_); intro r9 tl9 h9 tk9 P9 F9 N9 A9; k_dflt (obtain ⟨l9, ⟨vs9⟩, k9, q1, q2, hS9⟩ := P9; subst q1; subst q2); (try simp only [List.cons_append, List.nil_append] at N9); clear A9; (try dsimp only); (try k_fold)) | with_reducible (k_here; (with_reducible show wpAny _ _ (call (Value.ref 112) _) _ _ _); k_dflt (refine Does.useV d_ibm (by k_asm) (by k_asm) (by k_asm) (by k_asm) (by k_asm) (by first | exact rfl | assumption) (by exact True.intro) (by ktr_room) (by ktr_units) ?_); intro t9 h9 tk9 F9 N9; (try dsimp only); (try k_fold)) | with_reducible (k_here; (with_reducible show wpAny _ _ (call (Value.ref 138) _) _ _ _); k_dflt (refine Does.useV (d_fold _ _ (by assumption)) (by k_asm) (by k_asm) (by k_asm) (by k_asm) (by k_asm) (by first | exact rfl | assumption) (by exact True.intro) (by ktr_room) (by ktr_units) ?_); intro t9 h9 tk9 F9 N9; (try dsimp only); (try k_fold)) | walk1)
  refine wpAny_mono (Q := ModeMid g' L' s l (kindI x)) ?_ (fun f s' hq => ?_) fun _ _ e => e
  · rcases x with _ | x
    · replace hT : IsTup g' l #[.str (Str.ofString "doctype") t0, optV n tn, .none, optV sy ts, .bool iq] := hT
      (repeat' (first | with_reducible (k_here; (with_reducible show wpAny _ _ (getMethod (Value.ref _) (PySem.Str.ofString "index") _) _ _ _); (rename PySem.Heap.IsList _ _ _ => hL8); (rename PySem.Heap.NoDictAt _ _ => hD8); (rename Fr _ _ _ _ => hF8); (refine getMethod_list_of PySem.F.slot_list_index PySem.F.type_list_index (hF8.lst hL8) (hD8.keeps hF8.keep) ?_)) | with_reducible ((with_reducible show wpAny _ _ (call (Value.builtin "list.index") _) _ _ _); (k_here; (rename StrsAre _ knownL => hk8); (rename PySem.Heap.IsList _ _ _ => hL8); (refine index_list_strs (Fr.lst (by k_asm) hL8) hk8 (by rw [known_len]; decide) (known_mem (by assumption)) ?_))) | with_reducible ((with_reducible show wpAny _ _ (compareOp CmpOp.In (Value.str _ _) (Value.ref _)) _ _ _); (k_here; (rename StrsAre _ knownL => hk8); (rename PySem.Heap.IsList _ _ _ => hL8); (refine in_list_strs (Fr.lst (by k_asm) hL8) hk8 ?_); k_whole)) | with_reducible ((with_reducible show wpAny _ _ (binaryOp _ (Value.str _ _) (Value.str _ _)) _ _ _); ((refine PyProof.Rows.add_str ?_ (by simp only [PySem.Str.length_append]; rw [sizeLine_eq]; omega)); intro _ _)) | with_reducible (k_here; (with_reducible show wpAny _ _ (call (Value.builtin _) [Value.str _ _, Value.ref _]) _ _ _); k_dflt (refine join_listW (by is_list) (by assumption) (by decide +kernel) (by assumption) ?_); intro _ _) | with_reducible (k_here; (with_reducible show wpAny _ _ (subscriptTail _ (PySem.Expr.Slice _ _ none _) (Value.ref _) (Value.ref _)) _ _ _); k_dflt (refine kmk_slice_lit (by k_asm) (by k_asm) (by kmk_list) (by kmk_part) (by kmk_part) (by assumption) ?_ (by with_unfolding_all rfl) (by kmk_pure) (by (simp only [strValues, List.size_toArray, List.length_map]; rw [sizeLine_eq]; omega))); intro D' h' F' N' l1; (try k_lt l1)) | with_reducible (k_here; (with_reducible show wpAny _ _ (call (Value.builtin _) [Value.str _ _, Value.ref _]) _ _ _); k_dflt (refine join_listW (by is_list) (by assumption) (by decide +kernel) (by assumption) ?_); intro _ _) | with_reducible (k_here; (with_reducible show wpAny _ _ (call (Value.builtin "str.split") _) _ _ _); (refine KSpl.split1 (by k_asm) (by k_asm) (by decide) ?_ (by rw [sizeLine_eq]; omega)); intro D' l' h' k' e' a' F' N' l1; (try k_lt l1)) | with_reducible ((with_reducible show wpAny _ _ (subscriptTail _ _ (Value.ref _) (Value.int _ _)) _ _ _); (k_here; (rename IsTup _ _ _ => hT8); k_dflt (refine item_tupleT (by exact Fr.tup (by k_asm) hT8) (by decide) (by decide) (by exact rfl) (by exact rfl) ?_; k_whole))) | with_reducible (k_here; (with_reducible show wpAny _ _ (call (Value.ref 105) _) _ _ _); k_dflt (refine Does.use d_wholes (by k_asm) (by k_asm) (by k_asm) (by k_asm) (by k_asm) (by first | exact rfl | assumption) (by exact True.intro) (by ktr_room) (by ktr_units) ?_); intro r9 tl9 h9 tk9 P9 F9 N9 A9; k_dflt (obtain ⟨l9, ⟨vs9⟩, k9, q1, q2, hS9⟩ := P9; subst q1; subst q2); (try simp only [List.cons_append, List.nil_append] at N9); clear A9; (try dsimp only); (try k_fold)) | with_reducible (k_here; (with_reducible show wpAny _ _ (call (Value.ref 112) _) _ _ _); k_dflt (refine Does.useV d_ibm (by k_asm) (by k_asm) (by k_asm) (by k_asm) (by k_asm) (by first | exact rfl | assumption) (by exact True.intro) (by ktr_room) (by ktr_units) ?_); intro t9 h9 tk9 F9 N9; (try dsimp only); (try k_fold)) | with_reducible (k_here; (with_reducible show wpAny _ _ (call (Value.ref 138) _) _ _ _); k_dflt (refine Does.useV (d_fold _ _ (by assumption)) (by k_asm) (by k_asm) (by k_asm) (by k_asm) (by k_asm) (by first | exact rfl | assumption) (by exact True.intro) (by ktr_room) (by ktr_units) ?_); intro t9 h9 tk9 F9 N9; (try dsimp only); (try k_fold)) | (k_unfold; (try dsimp only)) | (k_end; wrow_close) | walk1 | (dsimp only; walk1) | (leave1; (try dsimp only)) | fail "no step"))
      exact ModeMid.of (by k_asm) rfl rfl rfl
    · replace hT : IsTup g' l #[.str (Str.ofString "doctype") t0, optV n tn, .str x tx, optV sy ts, .bool iq] := hT
      have hx3 := hx _ rfl
      have hx10 : x.cps.size ≤ 1000 := by omega
      have hW : (foldS x).length ≤ 300 := by show (foldS x).cps.size ≤ 300; rw [foldS_size]; exact hx3
      clear hx
      obtain ⟨W, hWe⟩ : ∃ W, W = foldS x := ⟨_, rfl⟩
      rw [← hWe] at hW
      refine wpAny_mono (Q := ModeMid g' L' s l (kindS W)) ?_ (fun f s' hq => (show kindI (some x) = kindS W by rw [hWe]; rfl) ▸ hq) fun _ _ e => e
      iterate 23 (first | with_reducible (k_here; (with_reducible show wpAny _ _ (getMethod (Value.ref _) (PySem.Str.ofString "index") _) _ _ _); (rename PySem.Heap.IsList _ _ _ => hL8); (rename PySem.Heap.NoDictAt _ _ => hD8); (rename Fr _ _ _ _ => hF8); (refine getMethod_list_of PySem.F.slot_list_index PySem.F.type_list_index (hF8.lst hL8) (hD8.keeps hF8.keep) ?_)) | with_reducible ((with_reducible show wpAny _ _ (call (Value.builtin "list.index") _) _ _ _); (k_here; (rename StrsAre _ knownL => hk8); (rename PySem.Heap.IsList _ _ _ => hL8); (refine index_list_strs (Fr.lst (by k_asm) hL8) hk8 (by rw [known_len]; decide) (known_mem (by assumption)) ?_))) | with_reducible ((with_reducible show wpAny _ _ (compareOp CmpOp.In (Value.str _ _) (Value.ref _)) _ _ _); (k_here; (rename StrsAre _ knownL => hk8); (rename PySem.Heap.IsList _ _ _ => hL8); (refine in_list_strs (Fr.lst (by k_asm) hL8) hk8 ?_); k_whole)) | with_reducible ((with_reducible show wpAny _ _ (binaryOp _ (Value.str _ _) (Value.str _ _)) _ _ _); ((refine PyProof.Rows.add_str ?_ (by simp only [PySem.Str.length_append]; rw [sizeLine_eq]; omega)); intro _ _)) | with_reducible (k_here; (with_reducible show wpAny _ _ (call (Value.builtin _) [Value.str _ _, Value.ref _]) _ _ _); k_dflt (refine join_listW (by is_list) (by assumption) (by decide +kernel) (by assumption) ?_); intro _ _) | with_reducible (k_here; (with_reducible show wpAny _ _ (subscriptTail _ (PySem.Expr.Slice _ _ none _) (Value.ref _) (Value.ref _)) _ _ _); k_dflt (refine kmk_slice_lit (by k_asm) (by k_asm) (by kmk_list) (by kmk_part) (by kmk_part) (by assumption) ?_ (by with_unfolding_all rfl) (by kmk_pure) (by (simp only [strValues, List.size_toArray, List.length_map]; rw [sizeLine_eq]; omega))); intro D' h' F' N' l1; (try k_lt l1)) | with_reducible (k_here; (with_reducible show wpAny _ _ (call (Value.builtin _) [Value.str _ _, Value.ref _]) _ _ _); k_dflt (refine join_listW (by is_list) (by assumption) (by decide +kernel) (by assumption) ?_); intro _ _) | with_reducible (k_here; (with_reducible show wpAny _ _ (call (Value.builtin "str.split") _) _ _ _); (refine KSpl.split1 (by k_asm) (by k_asm) (by decide) ?_ (by rw [sizeLine_eq]; omega)); intro D' l' h' k' e' a' F' N' l1; (try k_lt l1)) | with_reducible ((with_reducible show wpAny _ _ (subscriptTail _ _ (Value.ref _) (Value.int _ _)) _ _ _); (k_here; (rename IsTup _ _ _ => hT8); k_dflt (refine item_tupleT (by exact Fr.tup (by k_asm) hT8) (by decide) (by decide) (by exact rfl) (by exact rfl) ?_; k_whole))) | with_reducible (k_here; (with_reducible show wpAny _ _ (call (Value.ref 105) _) _ _ _); k_dflt (refine Does.use d_wholes (by k_asm) (by k_asm) (by k_asm) (by k_asm) (by k_asm) (by first | exact rfl | assumption) (by exact True.intro) (by ktr_room) (by ktr_units) ?_); intro r9 tl9 h9 tk9 P9 F9 N9 A9; k_dflt (obtain ⟨l9, ⟨vs9⟩, k9, q1, q2, hS9⟩ := P9; subst q1; subst q2); (try simp only [List.cons_append, List.nil_append] at N9); clear A9; (try dsimp only); (try k_fold)) | with_reducible (k_here; (with_reducible show wpAny _ _ (call (Value.ref 112) _) _ _ _); k_dflt (refine Does.useV d_ibm (by k_asm) (by k_asm) (by k_asm) (by k_asm) (by k_asm) (by first | exact rfl | assumption) (by exact True.intro) (by ktr_room) (by ktr_units) ?_); intro t9 h9 tk9 F9 N9; (try dsimp only); (try k_fold)) | with_reducible (k_here; (with_reducible show wpAny _ _ (call (Value.ref 138) _) _ _ _); k_dflt (refine Does.useV (d_fold _ _ (by assumption)) (by k_asm) (by k_asm) (by k_asm) (by k_asm) (by k_asm) (by first | exact rfl | assumption) (by exact True.intro) (by ktr_room) (by ktr_units) ?_); intro t9 h9 tk9 F9 N9; (try dsimp only); (try k_fold)) | walk1)
      (first | with_reducible (k_here; (with_reducible show wpAny _ _ (getMethod (Value.ref _) (PySem.Str.ofString "index") _) _ _ _); (rename PySem.Heap.IsList _ _ _ => hL8); (rename PySem.Heap.NoDictAt _ _ => hD8); (rename Fr _ _ _ _ => hF8); (refine getMethod_list_of PySem.F.slot_list_index PySem.F.type_list_index (hF8.lst hL8) (hD8.keeps hF8.keep) ?_)) | with_reducible ((with_reducible show wpAny _ _ (call (Value.builtin "list.index") _) _ _ _); (k_here; (rename StrsAre _ knownL => hk8); (rename PySem.Heap.IsList _ _ _ => hL8); (refine index_list_strs (Fr.lst (by k_asm) hL8) hk8 (by rw [known_len]; decide) (known_mem (by assumption)) ?_))) | with_reducible ((with_reducible show wpAny _ _ (compareOp CmpOp.In (Value.str _ _) (Value.ref _)) _ _ _); (k_here; (rename StrsAre _ knownL => hk8); (rename PySem.Heap.IsList _ _ _ => hL8); (refine in_list_strs (Fr.lst (by k_asm) hL8) hk8 ?_); k_whole)) | with_reducible ((with_reducible show wpAny _ _ (binaryOp _ (Value.str _ _) (Value.str _ _)) _ _ _); ((refine PyProof.Rows.add_str ?_ (by simp only [PySem.Str.length_append]; rw [sizeLine_eq]; omega)); intro _ _)) | with_reducible (k_here; (with_reducible show wpAny _ _ (call (Value.builtin _) [Value.str _ _, Value.ref _]) _ _ _); k_dflt (refine join_listW (by is_list) (by assumption) (by decide +kernel) (by assumption) ?_); intro _ _) | with_reducible (k_here; (with_reducible show wpAny _ _ (subscriptTail _ (PySem.Expr.Slice _ _ none _) (Value.ref _) (Value.ref _)) _ _ _); k_dflt (refine kmk_slice_lit (by k_asm) (by k_asm) (by kmk_list) (by kmk_part) (by kmk_part) (by assumption) ?_ (by with_unfolding_all rfl) (by kmk_pure) (by (simp only [strValues, List.size_toArray, List.length_map]; rw [sizeLine_eq]; omega))); intro D' h' F' N' l1; (try k_lt l1)) | with_reducible (k_here; (with_reducible show wpAny _ _ (call (Value.builtin _) [Value.str _ _, Value.ref _]) _ _ _); k_dflt (refine join_listW (by is_list) (by assumption) (by decide +kernel) (by assumption) ?_); intro _ _) | with_reducible (k_here; (with_reducible show wpAny _ _ (call (Value.builtin "str.split") _) _ _ _); (refine KSpl.split1 (by k_asm) (by k_asm) (by decide) ?_ (by rw [sizeLine_eq]; omega)); intro D' l' h' k' e' a' F' N' l1; (try k_lt l1)) | with_reducible ((with_reducible show wpAny _ _ (subscriptTail _ _ (Value.ref _) (Value.int _ _)) _ _ _); (k_here; (rename IsTup _ _ _ => hT8); k_dflt (refine item_tupleT (by exact Fr.tup (by k_asm) hT8) (by decide) (by decide) (by exact rfl) (by exact rfl) ?_; k_whole))) | with_reducible (k_here; (with_reducible show wpAny _ _ (call (Value.ref 105) _) _ _ _); k_dflt (refine Does.use d_wholes (by k_asm) (by k_asm) (by k_asm) (by k_asm) (by k_asm) (by first | exact rfl | assumption) (by exact True.intro) (by ktr_room) (by ktr_units) ?_); intro r9 tl9 h9 tk9 P9 F9 N9 A9; k_dflt (obtain ⟨l9, ⟨vs9⟩, k9, q1, q2, hS9⟩ := P9; subst q1; subst q2); (try simp only [List.cons_append, List.nil_append] at N9); clear A9; (try dsimp only); (try k_fold)) | with_reducible (k_here; (with_reducible show wpAny _ _ (call (Value.ref 112) _) _ _ _); k_dflt (refine Does.useV d_ibm (by k_asm) (by k_asm) (by k_asm) (by k_asm) (by k_asm) (by first | exact rfl | assumption) (by exact True.intro) (by ktr_room) (by ktr_units) ?_); intro t9 h9 tk9 F9 N9; (try dsimp only); (try k_fold)) | with_reducible (k_here; (with_reducible show wpAny _ _ (call (Value.ref 138) _) _ _ _); k_dflt (refine Does.useV (d_fold _ _ (by assumption)) (by k_asm) (by k_asm) (by k_asm) (by k_asm) (by k_asm) (by first | exact rfl | assumption) (by exact True.intro) (by ktr_room) (by ktr_units) ?_); intro t9 h9 tk9 F9 N9; (try dsimp only); (try k_fold)) | walk1)
      simp only [← hWe]
      clear hWe
      iterate 10 (first | with_reducible (k_here; (with_reducible show wpAny _ _ (getMethod (Value.ref _) (PySem.Str.ofString "index") _) _ _ _); (rename PySem.Heap.IsList _ _ _ => hL8); (rename PySem.Heap.NoDictAt _ _ => hD8); (rename Fr _ _ _ _ => hF8); (refine getMethod_list_of PySem.F.slot_list_index PySem.F.type_list_index (hF8.lst hL8) (hD8.keeps hF8.keep) ?_)) | with_reducible ((with_reducible show wpAny _ _ (call (Value.builtin "list.index") _) _ _ _); (k_here; (rename StrsAre _ knownL => hk8); (rename PySem.Heap.IsList _ _ _ => hL8); (refine index_list_strs (Fr.lst (by k_asm) hL8) hk8 (by rw [known_len]; decide) (known_mem (by assumption)) ?_))) | with_reducible ((with_reducible show wpAny _ _ (compareOp CmpOp.In (Value.str _ _) (Value.ref _)) _ _ _); (k_here; (rename StrsAre _ knownL => hk8); (rename PySem.Heap.IsList _ _ _ => hL8); (refine in_list_strs (Fr.lst (by k_asm) hL8) hk8 ?_); k_whole)) | with_reducible ((with_reducible show wpAny _ _ (binaryOp _ (Value.str _ _) (Value.str _ _)) _ _ _); ((refine PyProof.Rows.add_str ?_ (by simp only [PySem.Str.length_append]; rw [sizeLine_eq]; omega)); intro _ _)) | with_reducible (k_here; (with_reducible show wpAny _ _ (call (Value.builtin _) [Value.str _ _, Value.ref _]) _ _ _); k_dflt (refine join_listW (by is_list) (by assumption) (by decide +kernel) (by assumption) ?_); intro _ _) | with_reducible (k_here; (with_reducible show wpAny _ _ (subscriptTail _ (PySem.Expr.Slice _ _ none _) (Value.ref _) (Value.ref _)) _ _ _); k_dflt (refine kmk_slice_lit (by k_asm) (by k_asm) (by kmk_list) (by kmk_part) (by kmk_part) (by assumption) ?_ (by with_unfolding_all rfl) (by kmk_pure) (by (simp only [strValues, List.size_toArray, List.length_map]; rw [sizeLine_eq]; omega))); intro D' h' F' N' l1; (try k_lt l1)) | with_reducible (k_here; (with_reducible show wpAny _ _ (call (Value.builtin _) [Value.str _ _, Value.ref _]) _ _ _); k_dflt (refine join_listW (by is_list) (by assumption) (by decide +kernel) (by assumption) ?_); intro _ _) | with_reducible (k_here; (with_reducible show wpAny _ _ (call (Value.builtin "str.split") _) _ _ _); (refine KSpl.split1 (by k_asm) (by k_asm) (by decide) ?_ (by rw [sizeLine_eq]; omega)); intro D' l' h' k' e' a' F' N' l1; (try k_lt l1)) | with_reducible ((with_reducible show wpAny _ _ (subscriptTail _ _ (Value.ref _) (Value.int _ _)) _ _ _); (k_here; (rename IsTup _ _ _ => hT8); k_dflt (refine item_tupleT (by exact Fr.tup (by k_asm) hT8) (by decide) (by decide) (by exact rfl) (by exact rfl) ?_; k_whole))) | with_reducible (k_here; (with_reducible show wpAny _ _ (call (Value.ref 105) _) _ _ _); k_dflt (refine Does.use d_wholes (by k_asm) (by k_asm) (by k_asm) (by k_asm) (by k_asm) (by first | exact rfl | assumption) (by exact True.intro) (by ktr_room) (by ktr_units) ?_); intro r9 tl9 h9 tk9 P9 F9 N9 A9; k_dflt (obtain ⟨l9, ⟨vs9⟩, k9, q1, q2, hS9⟩ := P9; subst q1; subst q2); (try simp only [List.cons_append, List.nil_append] at N9); clear A9; (try dsimp only); (try k_fold)) | with_reducible (k_here; (with_reducible show wpAny _ _ (call (Value.ref 112) _) _ _ _); k_dflt (refine Does.useV d_ibm (by k_asm) (by k_asm) (by k_asm) (by k_asm) (by k_asm) (by first | exact rfl | assumption) (by exact True.intro) (by ktr_room) (by ktr_units) ?_); intro t9 h9 tk9 F9 N9; (try dsimp only); (try k_fold)) | with_reducible (k_here; (with_reducible show wpAny _ _ (call (Value.ref 138) _) _ _ _); k_dflt (refine Does.useV (d_fold _ _ (by assumption)) (by k_asm) (by k_asm) (by k_asm) (by k_asm) (by k_asm) (by first | exact rfl | assumption) (by exact True.intro) (by ktr_room) (by ktr_units) ?_); intro t9 h9 tk9 F9 N9; (try dsimp only); (try k_fold)) | walk1)
      (first | with_reducible (k_here; (with_reducible show wpAny _ _ (getMethod (Value.ref _) (PySem.Str.ofString "index") _) _ _ _); (rename PySem.Heap.IsList _ _ _ => hL8); (rename PySem.Heap.NoDictAt _ _ => hD8); (rename Fr _ _ _ _ => hF8); (refine getMethod_list_of PySem.F.slot_list_index PySem.F.type_list_index (hF8.lst hL8) (hD8.keeps hF8.keep) ?_)) | with_reducible ((with_reducible show wpAny _ _ (call (Value.builtin "list.index") _) _ _ _); (k_here; (rename StrsAre _ knownL => hk8); (rename PySem.Heap.IsList _ _ _ => hL8); (refine index_list_strs (Fr.lst (by k_asm) hL8) hk8 (by rw [known_len]; decide) (known_mem (by assumption)) ?_))) | with_reducible ((with_reducible show wpAny _ _ (compareOp CmpOp.In (Value.str _ _) (Value.ref _)) _ _ _); (k_here; (rename StrsAre _ knownL => hk8); (rename PySem.Heap.IsList _ _ _ => hL8); (refine in_list_strs (Fr.lst (by k_asm) hL8) hk8 ?_); k_whole)) | with_reducible ((with_reducible show wpAny _ _ (binaryOp _ (Value.str _ _) (Value.str _ _)) _ _ _); ((refine PyProof.Rows.add_str ?_ (by simp only [PySem.Str.length_append]; rw [sizeLine_eq]; omega)); intro _ _)) | with_reducible (k_here; (with_reducible show wpAny _ _ (call (Value.builtin _) [Value.str _ _, Value.ref _]) _ _ _); k_dflt (refine join_listW (by is_list) (by assumption) (by decide +kernel) (by assumption) ?_); intro _ _) | with_reducible (k_here; (with_reducible show wpAny _ _ (subscriptTail _ (PySem.Expr.Slice _ _ none _) (Value.ref _) (Value.ref _)) _ _ _); k_dflt (refine kmk_slice_lit (by k_asm) (by k_asm) (by kmk_list) (by kmk_part) (by kmk_part) (by assumption) ?_ (by with_unfolding_all rfl) (by kmk_pure) (by (simp only [strValues, List.size_toArray, List.length_map]; rw [sizeLine_eq]; omega))); intro D' h' F' N' l1; (try k_lt l1)) | with_reducible (k_here; (with_reducible show wpAny _ _ (call (Value.builtin _) [Value.str _ _, Value.ref _]) _ _ _); k_dflt (refine join_listW (by is_list) (by assumption) (by decide +kernel) (by assumption) ?_); intro _ _) | with_reducible (k_here; (with_reducible show wpAny _ _ (call (Value.builtin "str.split") _) _ _ _); (refine KSpl.split1 (by k_asm) (by k_asm) (by decide) ?_ (by rw [sizeLine_eq]; omega)); intro D' l' h' k' e' a' F' N' l1; (try k_lt l1)) | with_reducible ((with_reducible show wpAny _ _ (subscriptTail _ _ (Value.ref _) (Value.int _ _)) _ _ _); (k_here; (rename IsTup _ _ _ => hT8); k_dflt (refine item_tupleT (by exact Fr.tup (by k_asm) hT8) (by decide) (by decide) (by exact rfl) (by exact rfl) ?_; k_whole))) | with_reducible (k_here; (with_reducible show wpAny _ _ (call (Value.ref 105) _) _ _ _); k_dflt (refine Does.use d_wholes (by k_asm) (by k_asm) (by k_asm) (by k_asm) (by k_asm) (by first | exact rfl | assumption) (by exact True.intro) (by ktr_room) (by ktr_units) ?_); intro r9 tl9 h9 tk9 P9 F9 N9 A9; k_dflt (obtain ⟨l9, ⟨vs9⟩, k9, q1, q2, hS9⟩ := P9; subst q1; subst q2); (try simp only [List.cons_append, List.nil_append] at N9); clear A9; (try dsimp only); (try k_fold)) | with_reducible (k_here; (with_reducible show wpAny _ _ (call (Value.ref 112) _) _ _ _); k_dflt (refine Does.useV d_ibm (by k_asm) (by k_asm) (by k_asm) (by k_asm) (by k_asm) (by first | exact rfl | assumption) (by exact True.intro) (by ktr_room) (by ktr_units) ?_); intro t9 h9 tk9 F9 N9; (try dsimp only); (try k_fold)) | with_reducible (k_here; (with_reducible show wpAny _ _ (call (Value.ref 138) _) _ _ _); k_dflt (refine Does.useV (d_fold _ _ (by assumption)) (by k_asm) (by k_asm) (by k_asm) (by k_asm) (by k_asm) (by first | exact rfl | assumption) (by exact True.intro) (by ktr_room) (by ktr_units) ?_); intro t9 h9 tk9 F9 N9; (try dsimp only); (try k_fold)) | walk1)
      (rename List (Str × Tok) => ps); (rename List.map _ _ = Txt.split _ _ => e3)
      have hsp : Txt.split W (Str.ofString "//") = piecesL W := rfl
      have hlen : ps.length ≤ 302 := by have := split_le W (Str.ofString "//"); rw [← e3, List.length_map] at this; omega
      have hps : ps.length = (piecesL W).length := by rw [← hsp, ← e3, List.length_map]
      have hcut : (slicePick (strValues ps).toArray none (some 3) none).toList = strValues (ps.take 3) := by
        have := slicePick_upto' (strValues ps).toArray 3
        exact (congrArg Array.toList this).trans (by simp [strValues, List.map_take])
      have hcutS : StrsAre (strValues (ps.take 3)) ((ps.take 3).map (·.1)) := strsAre_of_values _
      have hwt : Weighs ((ps.take 3).map (·.1)) W.length := by
        have h1 := take_weigh (ps.map (·.1)) 3
        have h2 := split_weight W (Str.ofString "//") (by decide +kernel)
        rw [← e3] at h2
        rw [List.map_take]
        exact Nat.le_trans h1 h2
      have hjw : (((ps.take 3).map (·.1)).map (·.length)).sum + ((ps.take 3).map (·.1)).length ≤ 1048576 := by
        have : (((ps.take 3).map (·.1)).map (·.length)).sum + ((ps.take 3).map (·.1)).length ≤ W.length + 1 := hwt
        omega
      have hjl : (Txt.join (Str.ofString "//") ((ps.take 3).map (·.1))).length ≤ 4 * (W.length + 1) := len_join_le hwt (by decide +kernel)
      have hbeg : Txt.join (Str.ofString "//") ((ps.take 3).map (·.1)) ++ Str.ofString "//" = begunS W := by
        refine (congrArg (· ++ Str.ofString "//") (StrLaws.glued_eq_join _ _)).trans ?_
        rw [List.map_take, e3]; rfl
      iterate 19 (first | with_reducible (k_here; (with_reducible show wpAny _ _ (getMethod (Value.ref _) (PySem.Str.ofString "index") _) _ _ _); (rename PySem.Heap.IsList _ _ _ => hL8); (rename PySem.Heap.NoDictAt _ _ => hD8); (rename Fr _ _ _ _ => hF8); (refine getMethod_list_of PySem.F.slot_list_index PySem.F.type_list_index (hF8.lst hL8) (hD8.keeps hF8.keep) ?_)) | with_reducible ((with_reducible show wpAny _ _ (call (Value.builtin "list.index") _) _ _ _); (k_here; (rename StrsAre _ knownL => hk8); (rename PySem.Heap.IsList _ _ _ => hL8); (refine index_list_strs (Fr.lst (by k_asm) hL8) hk8 (by rw [known_len]; decide) (known_mem (by assumption)) ?_))) | with_reducible ((with_reducible show wpAny _ _ (compareOp CmpOp.In (Value.str _ _) (Value.ref _)) _ _ _); (k_here; (rename StrsAre _ knownL => hk8); (rename PySem.Heap.IsList _ _ _ => hL8); (refine in_list_strs (Fr.lst (by k_asm) hL8) hk8 ?_); k_whole)) | with_reducible ((with_reducible show wpAny _ _ (binaryOp _ (Value.str _ _) (Value.str _ _)) _ _ _); ((refine PyProof.Rows.add_str ?_ (by simp only [PySem.Str.length_append]; rw [sizeLine_eq]; omega)); intro _ _)) | with_reducible (k_here; (with_reducible show wpAny _ _ (call (Value.builtin _) [Value.str _ _, Value.ref _]) _ _ _); k_dflt (refine join_listW (by is_list) (by assumption) (by decide +kernel) (by assumption) ?_); intro _ _) | with_reducible (k_here; (with_reducible show wpAny _ _ (subscriptTail _ (PySem.Expr.Slice _ _ none _) (Value.ref _) (Value.ref _)) _ _ _); k_dflt (refine kmk_slice_lit (by k_asm) (by k_asm) (by kmk_list) (by kmk_part) (by kmk_part) (by assumption) ?_ (by with_unfolding_all rfl) (by kmk_pure) (by (simp only [strValues, List.size_toArray, List.length_map]; rw [sizeLine_eq]; omega))); intro D' h' F' N' l1; (try k_lt l1)) | with_reducible (k_here; (with_reducible show wpAny _ _ (call (Value.builtin _) [Value.str _ _, Value.ref _]) _ _ _); k_dflt (refine join_listW (by is_list) (by assumption) (by decide +kernel) (by assumption) ?_); intro _ _) | with_reducible (k_here; (with_reducible show wpAny _ _ (call (Value.builtin "str.split") _) _ _ _); (refine KSpl.split1 (by k_asm) (by k_asm) (by decide) ?_ (by rw [sizeLine_eq]; omega)); intro D' l' h' k' e' a' F' N' l1; (try k_lt l1)) | with_reducible ((with_reducible show wpAny _ _ (subscriptTail _ _ (Value.ref _) (Value.int _ _)) _ _ _); (k_here; (rename IsTup _ _ _ => hT8); k_dflt (refine item_tupleT (by exact Fr.tup (by k_asm) hT8) (by decide) (by decide) (by exact rfl) (by exact rfl) ?_; k_whole))) | with_reducible (k_here; (with_reducible show wpAny _ _ (call (Value.ref 105) _) _ _ _); k_dflt (refine Does.use d_wholes (by k_asm) (by k_asm) (by k_asm) (by k_asm) (by k_asm) (by first | exact rfl | assumption) (by exact True.intro) (by ktr_room) (by ktr_units) ?_); intro r9 tl9 h9 tk9 P9 F9 N9 A9; k_dflt (obtain ⟨l9, ⟨vs9⟩, k9, q1, q2, hS9⟩ := P9; subst q1; subst q2); (try simp only [List.cons_append, List.nil_append] at N9); clear A9; (try dsimp only); (try k_fold)) | with_reducible (k_here; (with_reducible show wpAny _ _ (call (Value.ref 112) _) _ _ _); k_dflt (refine Does.useV d_ibm (by k_asm) (by k_asm) (by k_asm) (by k_asm) (by k_asm) (by first | exact rfl | assumption) (by exact True.intro) (by ktr_room) (by ktr_units) ?_); intro t9 h9 tk9 F9 N9; (try dsimp only); (try k_fold)) | with_reducible (k_here; (with_reducible show wpAny _ _ (call (Value.ref 138) _) _ _ _); k_dflt (refine Does.useV (d_fold _ _ (by assumption)) (by k_asm) (by k_asm) (by k_asm) (by k_asm) (by k_asm) (by first | exact rfl | assumption) (by exact True.intro) (by ktr_room) (by ktr_units) ?_); intro t9 h9 tk9 F9 N9; (try dsimp only); (try k_fold)) | walk1)
      (first | with_reducible (k_here; (with_reducible show wpAny _ _ (getMethod (Value.ref _) (PySem.Str.ofString "index") _) _ _ _); (rename PySem.Heap.IsList _ _ _ => hL8); (rename PySem.Heap.NoDictAt _ _ => hD8); (rename Fr _ _ _ _ => hF8); (refine getMethod_list_of PySem.F.slot_list_index PySem.F.type_list_index (hF8.lst hL8) (hD8.keeps hF8.keep) ?_)) | with_reducible ((with_reducible show wpAny _ _ (call (Value.builtin "list.index") _) _ _ _); (k_here; (rename StrsAre _ knownL => hk8); (rename PySem.Heap.IsList _ _ _ => hL8); (refine index_list_strs (Fr.lst (by k_asm) hL8) hk8 (by rw [known_len]; decide) (known_mem (by assumption)) ?_))) | with_reducible ((with_reducible show wpAny _ _ (compareOp CmpOp.In (Value.str _ _) (Value.ref _)) _ _ _); (k_here; (rename StrsAre _ knownL => hk8); (rename PySem.Heap.IsList _ _ _ => hL8); (refine in_list_strs (Fr.lst (by k_asm) hL8) hk8 ?_); k_whole)) | with_reducible ((with_reducible show wpAny _ _ (binaryOp _ (Value.str _ _) (Value.str _ _)) _ _ _); ((refine PyProof.Rows.add_str ?_ (by simp only [PySem.Str.length_append]; rw [sizeLine_eq]; omega)); intro _ _)) | with_reducible (k_here; (with_reducible show wpAny _ _ (call (Value.builtin _) [Value.str _ _, Value.ref _]) _ _ _); k_dflt (refine join_listW (by is_list) (by assumption) (by decide +kernel) (by assumption) ?_); intro _ _) | with_reducible (k_here; (with_reducible show wpAny _ _ (subscriptTail _ (PySem.Expr.Slice _ _ none _) (Value.ref _) (Value.ref _)) _ _ _); k_dflt (refine kmk_slice_lit (by k_asm) (by k_asm) (by kmk_list) (by kmk_part) (by kmk_part) (by assumption) ?_ (by with_unfolding_all rfl) (by kmk_pure) (by (simp only [strValues, List.size_toArray, List.length_map]; rw [sizeLine_eq]; omega))); intro D' h' F' N' l1; (try k_lt l1)) | with_reducible (k_here; (with_reducible show wpAny _ _ (call (Value.builtin _) [Value.str _ _, Value.ref _]) _ _ _); k_dflt (refine join_listW (by is_list) (by assumption) (by decide +kernel) (by assumption) ?_); intro _ _) | with_reducible (k_here; (with_reducible show wpAny _ _ (call (Value.builtin "str.split") _) _ _ _); (refine KSpl.split1 (by k_asm) (by k_asm) (by decide) ?_ (by rw [sizeLine_eq]; omega)); intro D' l' h' k' e' a' F' N' l1; (try k_lt l1)) | with_reducible ((with_reducible show wpAny _ _ (subscriptTail _ _ (Value.ref _) (Value.int _ _)) _ _ _); (k_here; (rename IsTup _ _ _ => hT8); k_dflt (refine item_tupleT (by exact Fr.tup (by k_asm) hT8) (by decide) (by decide) (by exact rfl) (by exact rfl) ?_; k_whole))) | with_reducible (k_here; (with_reducible show wpAny _ _ (call (Value.ref 105) _) _ _ _); k_dflt (refine Does.use d_wholes (by k_asm) (by k_asm) (by k_asm) (by k_asm) (by k_asm) (by first | exact rfl | assumption) (by exact True.intro) (by ktr_room) (by ktr_units) ?_); intro r9 tl9 h9 tk9 P9 F9 N9 A9; k_dflt (obtain ⟨l9, ⟨vs9⟩, k9, q1, q2, hS9⟩ := P9; subst q1; subst q2); (try simp only [List.cons_append, List.nil_append] at N9); clear A9; (try dsimp only); (try k_fold)) | with_reducible (k_here; (with_reducible show wpAny _ _ (call (Value.ref 112) _) _ _ _); k_dflt (refine Does.useV d_ibm (by k_asm) (by k_asm) (by k_asm) (by k_asm) (by k_asm) (by first | exact rfl | assumption) (by exact True.intro) (by ktr_room) (by ktr_units) ?_); intro t9 h9 tk9 F9 N9; (try dsimp only); (try k_fold)) | with_reducible (k_here; (with_reducible show wpAny _ _ (call (Value.ref 138) _) _ _ _); k_dflt (refine Does.useV (d_fold _ _ (by assumption)) (by k_asm) (by k_asm) (by k_asm) (by k_asm) (by k_asm) (by first | exact rfl | assumption) (by exact True.intro) (by ktr_room) (by ktr_units) ?_); intro t9 h9 tk9 F9 N9; (try dsimp only); (try k_fold)) | walk1)
      iterate 1 (first | with_reducible (k_here; (with_reducible show wpAny _ _ (getMethod (Value.ref _) (PySem.Str.ofString "index") _) _ _ _); (rename PySem.Heap.IsList _ _ _ => hL8); (rename PySem.Heap.NoDictAt _ _ => hD8); (rename Fr _ _ _ _ => hF8); (refine getMethod_list_of PySem.F.slot_list_index PySem.F.type_list_index (hF8.lst hL8) (hD8.keeps hF8.keep) ?_)) | with_reducible ((with_reducible show wpAny _ _ (call (Value.builtin "list.index") _) _ _ _); (k_here; (rename StrsAre _ knownL => hk8); (rename PySem.Heap.IsList _ _ _ => hL8); (refine index_list_strs (Fr.lst (by k_asm) hL8) hk8 (by rw [known_len]; decide) (known_mem (by assumption)) ?_))) | with_reducible ((with_reducible show wpAny _ _ (compareOp CmpOp.In (Value.str _ _) (Value.ref _)) _ _ _); (k_here; (rename StrsAre _ knownL => hk8); (rename PySem.Heap.IsList _ _ _ => hL8); (refine in_list_strs (Fr.lst (by k_asm) hL8) hk8 ?_); k_whole)) | with_reducible ((with_reducible show wpAny _ _ (binaryOp _ (Value.str _ _) (Value.str _ _)) _ _ _); ((refine PyProof.Rows.add_str ?_ (by simp only [PySem.Str.length_append]; rw [sizeLine_eq]; omega)); intro _ _)) | with_reducible (k_here; (with_reducible show wpAny _ _ (call (Value.builtin _) [Value.str _ _, Value.ref _]) _ _ _); k_dflt (refine join_listW (by is_list) (by assumption) (by decide +kernel) (by assumption) ?_); intro _ _) | with_reducible (k_here; (with_reducible show wpAny _ _ (subscriptTail _ (PySem.Expr.Slice _ _ none _) (Value.ref _) (Value.ref _)) _ _ _); k_dflt (refine kmk_slice_lit (by k_asm) (by k_asm) (by kmk_list) (by kmk_part) (by kmk_part) (by assumption) ?_ (by with_unfolding_all rfl) (by kmk_pure) (by (simp only [strValues, List.size_toArray, List.length_map]; rw [sizeLine_eq]; omega))); intro D' h' F' N' l1; (try k_lt l1)) | with_reducible (k_here; (with_reducible show wpAny _ _ (call (Value.builtin _) [Value.str _ _, Value.ref _]) _ _ _); k_dflt (refine join_listW (by is_list) (by assumption) (by decide +kernel) (by assumption) ?_); intro _ _) | with_reducible (k_here; (with_reducible show wpAny _ _ (call (Value.builtin "str.split") _) _ _ _); (refine KSpl.split1 (by k_asm) (by k_asm) (by decide) ?_ (by rw [sizeLine_eq]; omega)); intro D' l' h' k' e' a' F' N' l1; (try k_lt l1)) | with_reducible ((with_reducible show wpAny _ _ (subscriptTail _ _ (Value.ref _) (Value.int _ _)) _ _ _); (k_here; (rename IsTup _ _ _ => hT8); k_dflt (refine item_tupleT (by exact Fr.tup (by k_asm) hT8) (by decide) (by decide) (by exact rfl) (by exact rfl) ?_; k_whole))) | with_reducible (k_here; (with_reducible show wpAny _ _ (call (Value.ref 105) _) _ _ _); k_dflt (refine Does.use d_wholes (by k_asm) (by k_asm) (by k_asm) (by k_asm) (by k_asm) (by first | exact rfl | assumption) (by exact True.intro) (by ktr_room) (by ktr_units) ?_); intro r9 tl9 h9 tk9 P9 F9 N9 A9; k_dflt (obtain ⟨l9, ⟨vs9⟩, k9, q1, q2, hS9⟩ := P9; subst q1; subst q2); (try simp only [List.cons_append, List.nil_append] at N9); clear A9; (try dsimp only); (try k_fold)) | with_reducible (k_here; (with_reducible show wpAny _ _ (call (Value.ref 112) _) _ _ _); k_dflt (refine Does.useV d_ibm (by k_asm) (by k_asm) (by k_asm) (by k_asm) (by k_asm) (by first | exact rfl | assumption) (by exact True.intro) (by ktr_room) (by ktr_units) ?_); intro t9 h9 tk9 F9 N9; (try dsimp only); (try k_fold)) | with_reducible (k_here; (with_reducible show wpAny _ _ (call (Value.ref 138) _) _ _ _); k_dflt (refine Does.useV (d_fold _ _ (by assumption)) (by k_asm) (by k_asm) (by k_asm) (by k_asm) (by k_asm) (by first | exact rfl | assumption) (by exact True.intro) (by ktr_room) (by ktr_units) ?_); intro t9 h9 tk9 F9 N9; (try dsimp only); (try k_fold)) | walk1)
      (first | with_reducible (k_here; (with_reducible show wpAny _ _ (getMethod (Value.ref _) (PySem.Str.ofString "index") _) _ _ _); (rename PySem.Heap.IsList _ _ _ => hL8); (rename PySem.Heap.NoDictAt _ _ => hD8); (rename Fr _ _ _ _ => hF8); (refine getMethod_list_of PySem.F.slot_list_index PySem.F.type_list_index (hF8.lst hL8) (hD8.keeps hF8.keep) ?_)) | with_reducible ((with_reducible show wpAny _ _ (call (Value.builtin "list.index") _) _ _ _); (k_here; (rename StrsAre _ knownL => hk8); (rename PySem.Heap.IsList _ _ _ => hL8); (refine index_list_strs (Fr.lst (by k_asm) hL8) hk8 (by rw [known_len]; decide) (known_mem (by assumption)) ?_))) | with_reducible ((with_reducible show wpAny _ _ (compareOp CmpOp.In (Value.str _ _) (Value.ref _)) _ _ _); (k_here; (rename StrsAre _ knownL => hk8); (rename PySem.Heap.IsList _ _ _ => hL8); (refine in_list_strs (Fr.lst (by k_asm) hL8) hk8 ?_); k_whole)) | with_reducible ((with_reducible show wpAny _ _ (binaryOp _ (Value.str _ _) (Value.str _ _)) _ _ _); ((refine PyProof.Rows.add_str ?_ (by simp only [PySem.Str.length_append]; rw [sizeLine_eq]; omega)); intro _ _)) | with_reducible (k_here; (with_reducible show wpAny _ _ (call (Value.builtin _) [Value.str _ _, Value.ref _]) _ _ _); k_dflt (refine join_listW (by is_list) (by assumption) (by decide +kernel) (by assumption) ?_); intro _ _) | with_reducible (k_here; (with_reducible show wpAny _ _ (subscriptTail _ (PySem.Expr.Slice _ _ none _) (Value.ref _) (Value.ref _)) _ _ _); k_dflt (refine kmk_slice_lit (by k_asm) (by k_asm) (by kmk_list) (by kmk_part) (by kmk_part) (by assumption) ?_ (by with_unfolding_all rfl) (by kmk_pure) (by (simp only [strValues, List.size_toArray, List.length_map]; rw [sizeLine_eq]; omega))); intro D' h' F' N' l1; (try k_lt l1)) | with_reducible (k_here; (with_reducible show wpAny _ _ (call (Value.builtin _) [Value.str _ _, Value.ref _]) _ _ _); k_dflt (refine join_listW (by is_list) (by assumption) (by decide +kernel) (by assumption) ?_); intro _ _) | with_reducible (k_here; (with_reducible show wpAny _ _ (call (Value.builtin "str.split") _) _ _ _); (refine KSpl.split1 (by k_asm) (by k_asm) (by decide) ?_ (by rw [sizeLine_eq]; omega)); intro D' l' h' k' e' a' F' N' l1; (try k_lt l1)) | with_reducible ((with_reducible show wpAny _ _ (subscriptTail _ _ (Value.ref _) (Value.int _ _)) _ _ _); (k_here; (rename IsTup _ _ _ => hT8); k_dflt (refine item_tupleT (by exact Fr.tup (by k_asm) hT8) (by decide) (by decide) (by exact rfl) (by exact rfl) ?_; k_whole))) | with_reducible (k_here; (with_reducible show wpAny _ _ (call (Value.ref 105) _) _ _ _); k_dflt (refine Does.use d_wholes (by k_asm) (by k_asm) (by k_asm) (by k_asm) (by k_asm) (by first | exact rfl | assumption) (by exact True.intro) (by ktr_room) (by ktr_units) ?_); intro r9 tl9 h9 tk9 P9 F9 N9 A9; k_dflt (obtain ⟨l9, ⟨vs9⟩, k9, q1, q2, hS9⟩ := P9; subst q1; subst q2); (try simp only [List.cons_append, List.nil_append] at N9); clear A9; (try dsimp only); (try k_fold)) | with_reducible (k_here; (with_reducible show wpAny _ _ (call (Value.ref 112) _) _ _ _); k_dflt (refine Does.useV d_ibm (by k_asm) (by k_asm) (by k_asm) (by k_asm) (by k_asm) (by first | exact rfl | assumption) (by exact True.intro) (by ktr_room) (by ktr_units) ?_); intro t9 h9 tk9 F9 N9; (try dsimp only); (try k_fold)) | with_reducible (k_here; (with_reducible show wpAny _ _ (call (Value.ref 138) _) _ _ _); k_dflt (refine Does.useV (d_fold _ _ (by assumption)) (by k_asm) (by k_asm) (by k_asm) (by k_asm) (by k_asm) (by first | exact rfl | assumption) (by exact True.intro) (by ktr_room) (by ktr_units) ?_); intro t9 h9 tk9 F9 N9; (try dsimp only); (try k_fold)) | walk1)
      simp only [hbeg]
      iterate 9 (first | with_reducible (k_here; (with_reducible show wpAny _ _ (getMethod (Value.ref _) (PySem.Str.ofString "index") _) _ _ _); (rename PySem.Heap.IsList _ _ _ => hL8); (rename PySem.Heap.NoDictAt _ _ => hD8); (rename Fr _ _ _ _ => hF8); (refine getMethod_list_of PySem.F.slot_list_index PySem.F.type_list_index (hF8.lst hL8) (hD8.keeps hF8.keep) ?_)) | with_reducible ((with_reducible show wpAny _ _ (call (Value.builtin "list.index") _) _ _ _); (k_here; (rename StrsAre _ knownL => hk8); (rename PySem.Heap.IsList _ _ _ => hL8); (refine index_list_strs (Fr.lst (by k_asm) hL8) hk8 (by rw [known_len]; decide) (known_mem (by assumption)) ?_))) | with_reducible ((with_reducible show wpAny _ _ (compareOp CmpOp.In (Value.str _ _) (Value.ref _)) _ _ _); (k_here; (rename StrsAre _ knownL => hk8); (rename PySem.Heap.IsList _ _ _ => hL8); (refine in_list_strs (Fr.lst (by k_asm) hL8) hk8 ?_); k_whole)) | with_reducible ((with_reducible show wpAny _ _ (binaryOp _ (Value.str _ _) (Value.str _ _)) _ _ _); ((refine PyProof.Rows.add_str ?_ (by simp only [PySem.Str.length_append]; rw [sizeLine_eq]; omega)); intro _ _)) | with_reducible (k_here; (with_reducible show wpAny _ _ (call (Value.builtin _) [Value.str _ _, Value.ref _]) _ _ _); k_dflt (refine join_listW (by is_list) (by assumption) (by decide +kernel) (by assumption) ?_); intro _ _) | with_reducible (k_here; (with_reducible show wpAny _ _ (subscriptTail _ (PySem.Expr.Slice _ _ none _) (Value.ref _) (Value.ref _)) _ _ _); k_dflt (refine kmk_slice_lit (by k_asm) (by k_asm) (by kmk_list) (by kmk_part) (by kmk_part) (by assumption) ?_ (by with_unfolding_all rfl) (by kmk_pure) (by (simp only [strValues, List.size_toArray, List.length_map]; rw [sizeLine_eq]; omega))); intro D' h' F' N' l1; (try k_lt l1)) | with_reducible (k_here; (with_reducible show wpAny _ _ (call (Value.builtin _) [Value.str _ _, Value.ref _]) _ _ _); k_dflt (refine join_listW (by is_list) (by assumption) (by decide +kernel) (by assumption) ?_); intro _ _) | with_reducible (k_here; (with_reducible show wpAny _ _ (call (Value.builtin "str.split") _) _ _ _); (refine KSpl.split1 (by k_asm) (by k_asm) (by decide) ?_ (by rw [sizeLine_eq]; omega)); intro D' l' h' k' e' a' F' N' l1; (try k_lt l1)) | with_reducible ((with_reducible show wpAny _ _ (subscriptTail _ _ (Value.ref _) (Value.int _ _)) _ _ _); (k_here; (rename IsTup _ _ _ => hT8); k_dflt (refine item_tupleT (by exact Fr.tup (by k_asm) hT8) (by decide) (by decide) (by exact rfl) (by exact rfl) ?_; k_whole))) | with_reducible (k_here; (with_reducible show wpAny _ _ (call (Value.ref 105) _) _ _ _); k_dflt (refine Does.use d_wholes (by k_asm) (by k_asm) (by k_asm) (by k_asm) (by k_asm) (by first | exact rfl | assumption) (by exact True.intro) (by ktr_room) (by ktr_units) ?_); intro r9 tl9 h9 tk9 P9 F9 N9 A9; k_dflt (obtain ⟨l9, ⟨vs9⟩, k9, q1, q2, hS9⟩ := P9; subst q1; subst q2); (try simp only [List.cons_append, List.nil_append] at N9); clear A9; (try dsimp only); (try k_fold)) | with_reducible (k_here; (with_reducible show wpAny _ _ (call (Value.ref 112) _) _ _ _); k_dflt (refine Does.useV d_ibm (by k_asm) (by k_asm) (by k_asm) (by k_asm) (by k_asm) (by first | exact rfl | assumption) (by exact True.intro) (by ktr_room) (by ktr_units) ?_); intro t9 h9 tk9 F9 N9; (try dsimp only); (try k_fold)) | with_reducible (k_here; (with_reducible show wpAny _ _ (call (Value.ref 138) _) _ _ _); k_dflt (refine Does.useV (d_fold _ _ (by assumption)) (by k_asm) (by k_asm) (by k_asm) (by k_asm) (by k_asm) (by first | exact rfl | assumption) (by exact True.intro) (by ktr_room) (by ktr_units) ?_); intro t9 h9 tk9 F9 N9; (try dsimp only); (try k_fold)) | walk1)
      (first | with_reducible (k_here; (with_reducible show wpAny _ _ (getMethod (Value.ref _) (PySem.Str.ofString "index") _) _ _ _); (rename PySem.Heap.IsList _ _ _ => hL8); (rename PySem.Heap.NoDictAt _ _ => hD8); (rename Fr _ _ _ _ => hF8); (refine getMethod_list_of PySem.F.slot_list_index PySem.F.type_list_index (hF8.lst hL8) (hD8.keeps hF8.keep) ?_)) | with_reducible ((with_reducible show wpAny _ _ (call (Value.builtin "list.index") _) _ _ _); (k_here; (rename StrsAre _ knownL => hk8); (rename PySem.Heap.IsList _ _ _ => hL8); (refine index_list_strs (Fr.lst (by k_asm) hL8) hk8 (by rw [known_len]; decide) (known_mem (by assumption)) ?_))) | with_reducible ((with_reducible show wpAny _ _ (compareOp CmpOp.In (Value.str _ _) (Value.ref _)) _ _ _); (k_here; (rename StrsAre _ knownL => hk8); (rename PySem.Heap.IsList _ _ _ => hL8); (refine in_list_strs (Fr.lst (by k_asm) hL8) hk8 ?_); k_whole)) | with_reducible ((with_reducible show wpAny _ _ (binaryOp _ (Value.str _ _) (Value.str _ _)) _ _ _); ((refine PyProof.Rows.add_str ?_ (by simp only [PySem.Str.length_append]; rw [sizeLine_eq]; omega)); intro _ _)) | with_reducible (k_here; (with_reducible show wpAny _ _ (call (Value.builtin _) [Value.str _ _, Value.ref _]) _ _ _); k_dflt (refine join_listW (by is_list) (by assumption) (by decide +kernel) (by assumption) ?_); intro _ _) | with_reducible (k_here; (with_reducible show wpAny _ _ (subscriptTail _ (PySem.Expr.Slice _ _ none _) (Value.ref _) (Value.ref _)) _ _ _); k_dflt (refine kmk_slice_lit (by k_asm) (by k_asm) (by kmk_list) (by kmk_part) (by kmk_part) (by assumption) ?_ (by with_unfolding_all rfl) (by kmk_pure) (by (simp only [strValues, List.size_toArray, List.length_map]; rw [sizeLine_eq]; omega))); intro D' h' F' N' l1; (try k_lt l1)) | with_reducible (k_here; (with_reducible show wpAny _ _ (call (Value.builtin _) [Value.str _ _, Value.ref _]) _ _ _); k_dflt (refine join_listW (by is_list) (by assumption) (by decide +kernel) (by assumption) ?_); intro _ _) | with_reducible (k_here; (with_reducible show wpAny _ _ (call (Value.builtin "str.split") _) _ _ _); (refine KSpl.split1 (by k_asm) (by k_asm) (by decide) ?_ (by rw [sizeLine_eq]; omega)); intro D' l' h' k' e' a' F' N' l1; (try k_lt l1)) | with_reducible ((with_reducible show wpAny _ _ (subscriptTail _ _ (Value.ref _) (Value.int _ _)) _ _ _); (k_here; (rename IsTup _ _ _ => hT8); k_dflt (refine item_tupleT (by exact Fr.tup (by k_asm) hT8) (by decide) (by decide) (by exact rfl) (by exact rfl) ?_; k_whole))) | with_reducible (k_here; (with_reducible show wpAny _ _ (call (Value.ref 105) _) _ _ _); k_dflt (refine Does.use d_wholes (by k_asm) (by k_asm) (by k_asm) (by k_asm) (by k_asm) (by first | exact rfl | assumption) (by exact True.intro) (by ktr_room) (by ktr_units) ?_); intro r9 tl9 h9 tk9 P9 F9 N9 A9; k_dflt (obtain ⟨l9, ⟨vs9⟩, k9, q1, q2, hS9⟩ := P9; subst q1; subst q2); (try simp only [List.cons_append, List.nil_append] at N9); clear A9; (try dsimp only); (try k_fold)) | with_reducible (k_here; (with_reducible show wpAny _ _ (call (Value.ref 112) _) _ _ _); k_dflt (refine Does.useV d_ibm (by k_asm) (by k_asm) (by k_asm) (by k_asm) (by k_asm) (by first | exact rfl | assumption) (by exact True.intro) (by ktr_room) (by ktr_units) ?_); intro t9 h9 tk9 F9 N9; (try dsimp only); (try k_fold)) | with_reducible (k_here; (with_reducible show wpAny _ _ (call (Value.ref 138) _) _ _ _); k_dflt (refine Does.useV (d_fold _ _ (by assumption)) (by k_asm) (by k_asm) (by k_asm) (by k_asm) (by k_asm) (by first | exact rfl | assumption) (by exact True.intro) (by ktr_room) (by ktr_units) ?_); intro t9 h9 tk9 F9 N9; (try dsimp only); (try k_fold)) | walk1)
      (rename StrsAre _ wholesL => hSW)
      refine in_list_strs (News.isList (by k_asm) (by k_mem)) hSW ?_
      (repeat' (first | with_reducible (k_here; (with_reducible show wpAny _ _ (getMethod (Value.ref _) (PySem.Str.ofString "index") _) _ _ _); (rename PySem.Heap.IsList _ _ _ => hL8); (rename PySem.Heap.NoDictAt _ _ => hD8); (rename Fr _ _ _ _ => hF8); (refine getMethod_list_of PySem.F.slot_list_index PySem.F.type_list_index (hF8.lst hL8) (hD8.keeps hF8.keep) ?_)) | with_reducible ((with_reducible show wpAny _ _ (call (Value.builtin "list.index") _) _ _ _); (k_here; (rename StrsAre _ knownL => hk8); (rename PySem.Heap.IsList _ _ _ => hL8); (refine index_list_strs (Fr.lst (by k_asm) hL8) hk8 (by rw [known_len]; decide) (known_mem (by assumption)) ?_))) | with_reducible ((with_reducible show wpAny _ _ (compareOp CmpOp.In (Value.str _ _) (Value.ref _)) _ _ _); (k_here; (rename StrsAre _ knownL => hk8); (rename PySem.Heap.IsList _ _ _ => hL8); (refine in_list_strs (Fr.lst (by k_asm) hL8) hk8 ?_); k_whole)) | with_reducible ((with_reducible show wpAny _ _ (binaryOp _ (Value.str _ _) (Value.str _ _)) _ _ _); ((refine PyProof.Rows.add_str ?_ (by simp only [PySem.Str.length_append]; rw [sizeLine_eq]; omega)); intro _ _)) | with_reducible (k_here; (with_reducible show wpAny _ _ (call (Value.builtin _) [Value.str _ _, Value.ref _]) _ _ _); k_dflt (refine join_listW (by is_list) (by assumption) (by decide +kernel) (by assumption) ?_); intro _ _) | with_reducible (k_here; (with_reducible show wpAny _ _ (subscriptTail _ (PySem.Expr.Slice _ _ none _) (Value.ref _) (Value.ref _)) _ _ _); k_dflt (refine kmk_slice_lit (by k_asm) (by k_asm) (by kmk_list) (by kmk_part) (by kmk_part) (by assumption) ?_ (by with_unfolding_all rfl) (by kmk_pure) (by (simp only [strValues, List.size_toArray, List.length_map]; rw [sizeLine_eq]; omega))); intro D' h' F' N' l1; (try k_lt l1)) | with_reducible (k_here; (with_reducible show wpAny _ _ (call (Value.builtin _) [Value.str _ _, Value.ref _]) _ _ _); k_dflt (refine join_listW (by is_list) (by assumption) (by decide +kernel) (by assumption) ?_); intro _ _) | with_reducible (k_here; (with_reducible show wpAny _ _ (call (Value.builtin "str.split") _) _ _ _); (refine KSpl.split1 (by k_asm) (by k_asm) (by decide) ?_ (by rw [sizeLine_eq]; omega)); intro D' l' h' k' e' a' F' N' l1; (try k_lt l1)) | with_reducible ((with_reducible show wpAny _ _ (subscriptTail _ _ (Value.ref _) (Value.int _ _)) _ _ _); (k_here; (rename IsTup _ _ _ => hT8); k_dflt (refine item_tupleT (by exact Fr.tup (by k_asm) hT8) (by decide) (by decide) (by exact rfl) (by exact rfl) ?_; k_whole))) | with_reducible (k_here; (with_reducible show wpAny _ _ (call (Value.ref 105) _) _ _ _); k_dflt (refine Does.use d_wholes (by k_asm) (by k_asm) (by k_asm) (by k_asm) (by k_asm) (by first | exact rfl | assumption) (by exact True.intro) (by ktr_room) (by ktr_units) ?_); intro r9 tl9 h9 tk9 P9 F9 N9 A9; k_dflt (obtain ⟨l9, ⟨vs9⟩, k9, q1, q2, hS9⟩ := P9; subst q1; subst q2); (try simp only [List.cons_append, List.nil_append] at N9); clear A9; (try dsimp only); (try k_fold)) | with_reducible (k_here; (with_reducible show wpAny _ _ (call (Value.ref 112) _) _ _ _); k_dflt (refine Does.useV d_ibm (by k_asm) (by k_asm) (by k_asm) (by k_asm) (by k_asm) (by first | exact rfl | assumption) (by exact True.intro) (by ktr_room) (by ktr_units) ?_); intro t9 h9 tk9 F9 N9; (try dsimp only); (try k_fold)) | with_reducible (k_here; (with_reducible show wpAny _ _ (call (Value.ref 138) _) _ _ _); k_dflt (refine Does.useV (d_fold _ _ (by assumption)) (by k_asm) (by k_asm) (by k_asm) (by k_asm) (by k_asm) (by first | exact rfl | assumption) (by exact True.intro) (by ktr_room) (by ktr_units) ?_); intro t9 h9 tk9 F9 N9; (try dsimp only); (try k_fold)) | (k_unfold; (try dsimp only)) | (k_end; wrow_close) | walk1 | (dsimp only; walk1) | (leave1; (try dsimp only)) | fail "no step"))
      all_goals refine ModeMid.of (by k_asm) rfl rfl ?_
      · exact kd1 (by assumption)
      · exact kd2 (by assumption) (by assumption) (by assumption) (by assumption) (by assumption)
      · exact kd3 (by assumption) (by assumption) (by assumption) (by assumption) (by assumption) (by assumption)
      · exact kd4 (by assumption) (by assumption) (by assumption) (by assumption) (by assumption) (by assumption)
      · exact kd5 (by assumption) (by assumption)
      · exact kd6 (by assumption) (by assumption) (by assumption)
  · obtain ⟨rfl, h2, tk2, m2, t2, rfl, F2, e1, e2⟩ := hq
    dsimp only
    have F3 := frame_cast (m' := fun y => if y = Str.ofString "kind" then some (.int (kindI x) t2) else if y = Str.ofString "token" then some (.ref l) else m2 y) F2 (by
      intro y
      by_cases q1 : y = Str.ofString "kind"
      · subst q1; rw [if_pos rfl]; exact e2
      by_cases q2 : y = Str.ofString "token"
      · subst q2; rw [if_neg q1, if_pos rfl]; exact e1
      simp only [if_neg q1, if_neg q2])
    have N3 : News g' L' h2 [] := News.nil
    unfold lawModeB
    generalize kindI x = kk at F3 ⊢
    clear F2 e1 e2
    have hs10 : ∀ z, sy = some z → z.cps.size ≤ 1000 := fun z e => Nat.le_trans (hs z e) (by decide)
    clear hs
    rcases n with _ | n <;> rcases sy with _ | sy <;> simp only [optV, tokV] at hT
    · (repeat' (first | with_reducible (k_here; (with_reducible show wpAny _ _ (getMethod (Value.ref _) (PySem.Str.ofString "index") _) _ _ _); (rename PySem.Heap.IsList _ _ _ => hL8); (rename PySem.Heap.NoDictAt _ _ => hD8); (rename Fr _ _ _ _ => hF8); (refine getMethod_list_of PySem.F.slot_list_index PySem.F.type_list_index (hF8.lst hL8) (hD8.keeps hF8.keep) ?_)) | with_reducible ((with_reducible show wpAny _ _ (call (Value.builtin "list.index") _) _ _ _); (k_here; (rename StrsAre _ knownL => hk8); (rename PySem.Heap.IsList _ _ _ => hL8); (refine index_list_strs (Fr.lst (by k_asm) hL8) hk8 (by rw [known_len]; decide) (known_mem (by assumption)) ?_))) | with_reducible ((with_reducible show wpAny _ _ (compareOp CmpOp.In (Value.str _ _) (Value.ref _)) _ _ _); (k_here; (rename StrsAre _ knownL => hk8); (rename PySem.Heap.IsList _ _ _ => hL8); (refine in_list_strs (Fr.lst (by k_asm) hL8) hk8 ?_); k_whole)) | with_reducible ((with_reducible show wpAny _ _ (binaryOp _ (Value.str _ _) (Value.str _ _)) _ _ _); ((refine PyProof.Rows.add_str ?_ (by simp only [PySem.Str.length_append]; rw [sizeLine_eq]; omega)); intro _ _)) | with_reducible (k_here; (with_reducible show wpAny _ _ (call (Value.builtin _) [Value.str _ _, Value.ref _]) _ _ _); k_dflt (refine join_listW (by is_list) (by assumption) (by decide +kernel) (by assumption) ?_); intro _ _) | with_reducible (k_here; (with_reducible show wpAny _ _ (subscriptTail _ (PySem.Expr.Slice _ _ none _) (Value.ref _) (Value.ref _)) _ _ _); k_dflt (refine kmk_slice_lit (by k_asm) (by k_asm) (by kmk_list) (by kmk_part) (by kmk_part) (by assumption) ?_ (by with_unfolding_all rfl) (by kmk_pure) (by (simp only [strValues, List.size_toArray, List.length_map]; rw [sizeLine_eq]; omega))); intro D' h' F' N' l1; (try k_lt l1)) | with_reducible (k_here; (with_reducible show wpAny _ _ (call (Value.builtin _) [Value.str _ _, Value.ref _]) _ _ _); k_dflt (refine join_listW (by is_list) (by assumption) (by decide +kernel) (by assumption) ?_); intro _ _) | with_reducible (k_here; (with_reducible show wpAny _ _ (call (Value.builtin "str.split") _) _ _ _); (refine KSpl.split1 (by k_asm) (by k_asm) (by decide) ?_ (by rw [sizeLine_eq]; omega)); intro D' l' h' k' e' a' F' N' l1; (try k_lt l1)) | with_reducible ((with_reducible show wpAny _ _ (subscriptTail _ _ (Value.ref _) (Value.int _ _)) _ _ _); (k_here; (rename IsTup _ _ _ => hT8); k_dflt (refine item_tupleT (by exact Fr.tup (by k_asm) hT8) (by decide) (by decide) (by exact rfl) (by exact rfl) ?_; k_whole))) | with_reducible (k_here; (with_reducible show wpAny _ _ (call (Value.ref 105) _) _ _ _); k_dflt (refine Does.use d_wholes (by k_asm) (by k_asm) (by k_asm) (by k_asm) (by k_asm) (by first | exact rfl | assumption) (by exact True.intro) (by ktr_room) (by ktr_units) ?_); intro r9 tl9 h9 tk9 P9 F9 N9 A9; k_dflt (obtain ⟨l9, ⟨vs9⟩, k9, q1, q2, hS9⟩ := P9; subst q1; subst q2); (try simp only [List.cons_append, List.nil_append] at N9); clear A9; (try dsimp only); (try k_fold)) | with_reducible (k_here; (with_reducible show wpAny _ _ (call (Value.ref 112) _) _ _ _); k_dflt (refine Does.useV d_ibm (by k_asm) (by k_asm) (by k_asm) (by k_asm) (by k_asm) (by first | exact rfl | assumption) (by exact True.intro) (by ktr_room) (by ktr_units) ?_); intro t9 h9 tk9 F9 N9; (try dsimp only); (try k_fold)) | with_reducible (k_here; (with_reducible show wpAny _ _ (call (Value.ref 138) _) _ _ _); k_dflt (refine Does.useV (d_fold _ _ (by assumption)) (by k_asm) (by k_asm) (by k_asm) (by k_asm) (by k_asm) (by first | exact rfl | assumption) (by exact True.intro) (by ktr_room) (by ktr_units) ?_); intro t9 h9 tk9 F9 N9; (try dsimp only); (try k_fold)) | (k_unfold; (try dsimp only)) | (k_end; wrow_close) | walk1 | (dsimp only; walk1) | (leave1; (try dsimp only)) | fail "no step"))
      all_goals (((try dsimp only); refine endS (by k_asm) ?_; first | exact mo1 (by assumption) | exact mo2 | exact mo3 (by assumption) | exact mo4 (by assumption) | exact mo5 (by assumption) | exact mo6 (by assumption) (by assumption) (by assumption) (by assumption) (by assumption) | exact mo7 (by assumption) (by assumption) (by assumption) (by assumption) (by assumption) | exact mo8 (by assumption) (by assumption) (by assumption) (by assumption) | exact mo9 (by assumption) (by assumption) (by assumption) (by assumption) (by assumption) | exact mo11 (by assumption) (by assumption) (by assumption) (by assumption) | exact mo10 (by assumption) (by assumption) (by assumption) (by assumption) (by assumption)))
    · (repeat' (first | with_reducible (k_here; (with_reducible show wpAny _ _ (getMethod (Value.ref _) (PySem.Str.ofString "index") _) _ _ _); (rename PySem.Heap.IsList _ _ _ => hL8); (rename PySem.Heap.NoDictAt _ _ => hD8); (rename Fr _ _ _ _ => hF8); (refine getMethod_list_of PySem.F.slot_list_index PySem.F.type_list_index (hF8.lst hL8) (hD8.keeps hF8.keep) ?_)) | with_reducible ((with_reducible show wpAny _ _ (call (Value.builtin "list.index") _) _ _ _); (k_here; (rename StrsAre _ knownL => hk8); (rename PySem.Heap.IsList _ _ _ => hL8); (refine index_list_strs (Fr.lst (by k_asm) hL8) hk8 (by rw [known_len]; decide) (known_mem (by assumption)) ?_))) | with_reducible ((with_reducible show wpAny _ _ (compareOp CmpOp.In (Value.str _ _) (Value.ref _)) _ _ _); (k_here; (rename StrsAre _ knownL => hk8); (rename PySem.Heap.IsList _ _ _ => hL8); (refine in_list_strs (Fr.lst (by k_asm) hL8) hk8 ?_); k_whole)) | with_reducible ((with_reducible show wpAny _ _ (binaryOp _ (Value.str _ _) (Value.str _ _)) _ _ _); ((refine PyProof.Rows.add_str ?_ (by simp only [PySem.Str.length_append]; rw [sizeLine_eq]; omega)); intro _ _)) | with_reducible (k_here; (with_reducible show wpAny _ _ (call (Value.builtin _) [Value.str _ _, Value.ref _]) _ _ _); k_dflt (refine join_listW (by is_list) (by assumption) (by decide +kernel) (by assumption) ?_); intro _ _) | with_reducible (k_here; (with_reducible show wpAny _ _ (subscriptTail _ (PySem.Expr.Slice _ _ none _) (Value.ref _) (Value.ref _)) _ _ _); k_dflt (refine kmk_slice_lit (by k_asm) (by k_asm) (by kmk_list) (by kmk_part) (by kmk_part) (by assumption) ?_ (by with_unfolding_all rfl) (by kmk_pure) (by (simp only [strValues, List.size_toArray, List.length_map]; rw [sizeLine_eq]; omega))); intro D' h' F' N' l1; (try k_lt l1)) | with_reducible (k_here; (with_reducible show wpAny _ _ (call (Value.builtin _) [Value.str _ _, Value.ref _]) _ _ _); k_dflt (refine join_listW (by is_list) (by assumption) (by decide +kernel) (by assumption) ?_); intro _ _) | with_reducible (k_here; (with_reducible show wpAny _ _ (call (Value.builtin "str.split") _) _ _ _); (refine KSpl.split1 (by k_asm) (by k_asm) (by decide) ?_ (by rw [sizeLine_eq]; omega)); intro D' l' h' k' e' a' F' N' l1; (try k_lt l1)) | with_reducible ((with_reducible show wpAny _ _ (subscriptTail _ _ (Value.ref _) (Value.int _ _)) _ _ _); (k_here; (rename IsTup _ _ _ => hT8); k_dflt (refine item_tupleT (by exact Fr.tup (by k_asm) hT8) (by decide) (by decide) (by exact rfl) (by exact rfl) ?_; k_whole))) | with_reducible (k_here; (with_reducible show wpAny _ _ (call (Value.ref 105) _) _ _ _); k_dflt (refine Does.use d_wholes (by k_asm) (by k_asm) (by k_asm) (by k_asm) (by k_asm) (by first | exact rfl | assumption) (by exact True.intro) (by ktr_room) (by ktr_units) ?_); intro r9 tl9 h9 tk9 P9 F9 N9 A9; k_dflt (obtain ⟨l9, ⟨vs9⟩, k9, q1, q2, hS9⟩ := P9; subst q1; subst q2); (try simp only [List.cons_append, List.nil_append] at N9); clear A9; (try dsimp only); (try k_fold)) | with_reducible (k_here; (with_reducible show wpAny _ _ (call (Value.ref 112) _) _ _ _); k_dflt (refine Does.useV d_ibm (by k_asm) (by k_asm) (by k_asm) (by k_asm) (by k_asm) (by first | exact rfl | assumption) (by exact True.intro) (by ktr_room) (by ktr_units) ?_); intro t9 h9 tk9 F9 N9; (try dsimp only); (try k_fold)) | with_reducible (k_here; (with_reducible show wpAny _ _ (call (Value.ref 138) _) _ _ _); k_dflt (refine Does.useV (d_fold _ _ (by assumption)) (by k_asm) (by k_asm) (by k_asm) (by k_asm) (by k_asm) (by first | exact rfl | assumption) (by exact True.intro) (by ktr_room) (by ktr_units) ?_); intro t9 h9 tk9 F9 N9; (try dsimp only); (try k_fold)) | (k_unfold; (try dsimp only)) | (k_end; wrow_close) | walk1 | (dsimp only; walk1) | (leave1; (try dsimp only)) | fail "no step"))
      all_goals (((try dsimp only); refine endS (by k_asm) ?_; first | exact mo1 (by assumption) | exact mo2 | exact mo3 (by assumption) | exact mo4 (by assumption) | exact mo5 (by assumption) | exact mo6 (by assumption) (by assumption) (by assumption) (by assumption) (by assumption) | exact mo7 (by assumption) (by assumption) (by assumption) (by assumption) (by assumption) | exact mo8 (by assumption) (by assumption) (by assumption) (by assumption) | exact mo9 (by assumption) (by assumption) (by assumption) (by assumption) (by assumption) | exact mo11 (by assumption) (by assumption) (by assumption) (by assumption) | exact mo10 (by assumption) (by assumption) (by assumption) (by assumption) (by assumption)))
    · (repeat' (first | with_reducible (k_here; (with_reducible show wpAny _ _ (getMethod (Value.ref _) (PySem.Str.ofString "index") _) _ _ _); (rename PySem.Heap.IsList _ _ _ => hL8); (rename PySem.Heap.NoDictAt _ _ => hD8); (rename Fr _ _ _ _ => hF8); (refine getMethod_list_of PySem.F.slot_list_index PySem.F.type_list_index (hF8.lst hL8) (hD8.keeps hF8.keep) ?_)) | with_reducible ((with_reducible show wpAny _ _ (call (Value.builtin "list.index") _) _ _ _); (k_here; (rename StrsAre _ knownL => hk8); (rename PySem.Heap.IsList _ _ _ => hL8); (refine index_list_strs (Fr.lst (by k_asm) hL8) hk8 (by rw [known_len]; decide) (known_mem (by assumption)) ?_))) | with_reducible ((with_reducible show wpAny _ _ (compareOp CmpOp.In (Value.str _ _) (Value.ref _)) _ _ _); (k_here; (rename StrsAre _ knownL => hk8); (rename PySem.Heap.IsList _ _ _ => hL8); (refine in_list_strs (Fr.lst (by k_asm) hL8) hk8 ?_); k_whole)) | with_reducible ((with_reducible show wpAny _ _ (binaryOp _ (Value.str _ _) (Value.str _ _)) _ _ _); ((refine PyProof.Rows.add_str ?_ (by simp only [PySem.Str.length_append]; rw [sizeLine_eq]; omega)); intro _ _)) | with_reducible (k_here; (with_reducible show wpAny _ _ (call (Value.builtin _) [Value.str _ _, Value.ref _]) _ _ _); k_dflt (refine join_listW (by is_list) (by assumption) (by decide +kernel) (by assumption) ?_); intro _ _) | with_reducible (k_here; (with_reducible show wpAny _ _ (subscriptTail _ (PySem.Expr.Slice _ _ none _) (Value.ref _) (Value.ref _)) _ _ _); k_dflt (refine kmk_slice_lit (by k_asm) (by k_asm) (by kmk_list) (by kmk_part) (by kmk_part) (by assumption) ?_ (by with_unfolding_all rfl) (by kmk_pure) (by (simp only [strValues, List.size_toArray, List.length_map]; rw [sizeLine_eq]; omega))); intro D' h' F' N' l1; (try k_lt l1)) | with_reducible (k_here; (with_reducible show wpAny _ _ (call (Value.builtin _) [Value.str _ _, Value.ref _]) _ _ _); k_dflt (refine join_listW (by is_list) (by assumption) (by decide +kernel) (by assumption) ?_); intro _ _) | with_reducible (k_here; (with_reducible show wpAny _ _ (call (Value.builtin "str.split") _) _ _ _); (refine KSpl.split1 (by k_asm) (by k_asm) (by decide) ?_ (by rw [sizeLine_eq]; omega)); intro D' l' h' k' e' a' F' N' l1; (try k_lt l1)) | with_reducible ((with_reducible show wpAny _ _ (subscriptTail _ _ (Value.ref _) (Value.int _ _)) _ _ _); (k_here; (rename IsTup _ _ _ => hT8); k_dflt (refine item_tupleT (by exact Fr.tup (by k_asm) hT8) (by decide) (by decide) (by exact rfl) (by exact rfl) ?_; k_whole))) | with_reducible (k_here; (with_reducible show wpAny _ _ (call (Value.ref 105) _) _ _ _); k_dflt (refine Does.use d_wholes (by k_asm) (by k_asm) (by k_asm) (by k_asm) (by k_asm) (by first | exact rfl | assumption) (by exact True.intro) (by ktr_room) (by ktr_units) ?_); intro r9 tl9 h9 tk9 P9 F9 N9 A9; k_dflt (obtain ⟨l9, ⟨vs9⟩, k9, q1, q2, hS9⟩ := P9; subst q1; subst q2); (try simp only [List.cons_append, List.nil_append] at N9); clear A9; (try dsimp only); (try k_fold)) | with_reducible (k_here; (with_reducible show wpAny _ _ (call (Value.ref 112) _) _ _ _); k_dflt (refine Does.useV d_ibm (by k_asm) (by k_asm) (by k_asm) (by k_asm) (by k_asm) (by first | exact rfl | assumption) (by exact True.intro) (by ktr_room) (by ktr_units) ?_); intro t9 h9 tk9 F9 N9; (try dsimp only); (try k_fold)) | with_reducible (k_here; (with_reducible show wpAny _ _ (call (Value.ref 138) _) _ _ _); k_dflt (refine Does.useV (d_fold _ _ (by assumption)) (by k_asm) (by k_asm) (by k_asm) (by k_asm) (by k_asm) (by first | exact rfl | assumption) (by exact True.intro) (by ktr_room) (by ktr_units) ?_); intro t9 h9 tk9 F9 N9; (try dsimp only); (try k_fold)) | (k_unfold; (try dsimp only)) | (k_end; wrow_close) | walk1 | (dsimp only; walk1) | (leave1; (try dsimp only)) | fail "no step"))
      all_goals (((try dsimp only); refine endS (by k_asm) ?_; first | exact mo1 (by assumption) | exact mo2 | exact mo3 (by assumption) | exact mo4 (by assumption) | exact mo5 (by assumption) | exact mo6 (by assumption) (by assumption) (by assumption) (by assumption) (by assumption) | exact mo7 (by assumption) (by assumption) (by assumption) (by assumption) (by assumption) | exact mo8 (by assumption) (by assumption) (by assumption) (by assumption) | exact mo9 (by assumption) (by assumption) (by assumption) (by assumption) (by assumption) | exact mo11 (by assumption) (by assumption) (by assumption) (by assumption) | exact mo10 (by assumption) (by assumption) (by assumption) (by assumption) (by assumption)))
    · have hs1 := hs10 _ rfl
      clear hs10
      (repeat' (first | with_reducible (k_here; (with_reducible show wpAny _ _ (getMethod (Value.ref _) (PySem.Str.ofString "index") _) _ _ _); (rename PySem.Heap.IsList _ _ _ => hL8); (rename PySem.Heap.NoDictAt _ _ => hD8); (rename Fr _ _ _ _ => hF8); (refine getMethod_list_of PySem.F.slot_list_index PySem.F.type_list_index (hF8.lst hL8) (hD8.keeps hF8.keep) ?_)) | with_reducible ((with_reducible show wpAny _ _ (call (Value.builtin "list.index") _) _ _ _); (k_here; (rename StrsAre _ knownL => hk8); (rename PySem.Heap.IsList _ _ _ => hL8); (refine index_list_strs (Fr.lst (by k_asm) hL8) hk8 (by rw [known_len]; decide) (known_mem (by assumption)) ?_))) | with_reducible ((with_reducible show wpAny _ _ (compareOp CmpOp.In (Value.str _ _) (Value.ref _)) _ _ _); (k_here; (rename StrsAre _ knownL => hk8); (rename PySem.Heap.IsList _ _ _ => hL8); (refine in_list_strs (Fr.lst (by k_asm) hL8) hk8 ?_); k_whole)) | with_reducible ((with_reducible show wpAny _ _ (binaryOp _ (Value.str _ _) (Value.str _ _)) _ _ _); ((refine PyProof.Rows.add_str ?_ (by simp only [PySem.Str.length_append]; rw [sizeLine_eq]; omega)); intro _ _)) | with_reducible (k_here; (with_reducible show wpAny _ _ (call (Value.builtin _) [Value.str _ _, Value.ref _]) _ _ _); k_dflt (refine join_listW (by is_list) (by assumption) (by decide +kernel) (by assumption) ?_); intro _ _) | with_reducible (k_here; (with_reducible show wpAny _ _ (subscriptTail _ (PySem.Expr.Slice _ _ none _) (Value.ref _) (Value.ref _)) _ _ _); k_dflt (refine kmk_slice_lit (by k_asm) (by k_asm) (by kmk_list) (by kmk_part) (by kmk_part) (by assumption) ?_ (by with_unfolding_all rfl) (by kmk_pure) (by (simp only [strValues, List.size_toArray, List.length_map]; rw [sizeLine_eq]; omega))); intro D' h' F' N' l1; (try k_lt l1)) | with_reducible (k_here; (with_reducible show wpAny _ _ (call (Value.builtin _) [Value.str _ _, Value.ref _]) _ _ _); k_dflt (refine join_listW (by is_list) (by assumption) (by decide +kernel) (by assumption) ?_); intro _ _) | with_reducible (k_here; (with_reducible show wpAny _ _ (call (Value.builtin "str.split") _) _ _ _); (refine KSpl.split1 (by k_asm) (by k_asm) (by decide) ?_ (by rw [sizeLine_eq]; omega)); intro D' l' h' k' e' a' F' N' l1; (try k_lt l1)) | with_reducible ((with_reducible show wpAny _ _ (subscriptTail _ _ (Value.ref _) (Value.int _ _)) _ _ _); (k_here; (rename IsTup _ _ _ => hT8); k_dflt (refine item_tupleT (by exact Fr.tup (by k_asm) hT8) (by decide) (by decide) (by exact rfl) (by exact rfl) ?_; k_whole))) | with_reducible (k_here; (with_reducible show wpAny _ _ (call (Value.ref 105) _) _ _ _); k_dflt (refine Does.use d_wholes (by k_asm) (by k_asm) (by k_asm) (by k_asm) (by k_asm) (by first | exact rfl | assumption) (by exact True.intro) (by ktr_room) (by ktr_units) ?_); intro r9 tl9 h9 tk9 P9 F9 N9 A9; k_dflt (obtain ⟨l9, ⟨vs9⟩, k9, q1, q2, hS9⟩ := P9; subst q1; subst q2); (try simp only [List.cons_append, List.nil_append] at N9); clear A9; (try dsimp only); (try k_fold)) | with_reducible (k_here; (with_reducible show wpAny _ _ (call (Value.ref 112) _) _ _ _); k_dflt (refine Does.useV d_ibm (by k_asm) (by k_asm) (by k_asm) (by k_asm) (by k_asm) (by first | exact rfl | assumption) (by exact True.intro) (by ktr_room) (by ktr_units) ?_); intro t9 h9 tk9 F9 N9; (try dsimp only); (try k_fold)) | with_reducible (k_here; (with_reducible show wpAny _ _ (call (Value.ref 138) _) _ _ _); k_dflt (refine Does.useV (d_fold _ _ (by assumption)) (by k_asm) (by k_asm) (by k_asm) (by k_asm) (by k_asm) (by first | exact rfl | assumption) (by exact True.intro) (by ktr_room) (by ktr_units) ?_); intro t9 h9 tk9 F9 N9; (try dsimp only); (try k_fold)) | (k_unfold; (try dsimp only)) | (k_end; wrow_close) | walk1 | (dsimp only; walk1) | (leave1; (try dsimp only)) | fail "no step"))
      all_goals (((try dsimp only); refine endS (by k_asm) ?_; first | exact mo1 (by assumption) | exact mo2 | exact mo3 (by assumption) | exact mo4 (by assumption) | exact mo5 (by assumption) | exact mo6 (by assumption) (by assumption) (by assumption) (by assumption) (by assumption) | exact mo7 (by assumption) (by assumption) (by assumption) (by assumption) (by assumption) | exact mo8 (by assumption) (by assumption) (by assumption) (by assumption) | exact mo9 (by assumption) (by assumption) (by assumption) (by assumption) (by assumption) | exact mo11 (by assumption) (by assumption) (by assumption) (by assumption) | exact mo10 (by assumption) (by assumption) (by assumption) (by assumption) (by assumption)))

end
theorem tick_mode : True := by first | walk1 | trivial
section
variable {w : World} {loose : List Str} {mean : ExcName → Option Value} {mg mb : Str → Option Value}
section
open PySem.StrLaws PySem.Builtin PySem.Builtin.Str
theorem starts_iff (W : Str) (l : List Nat) : Txt.startswith W (tx l) = true ↔ ∃ r, W.cps.toList = l ++ r := by
  unfold Txt.startswith
  rw [Bool.and_eq_true, decide_eq_true_eq, subAt_eq]
  have e1 : (tx l).length = l.length := by simp [tx, Str.length]
  have e2 : (tx l).cps.toList = l := by simp [tx]
  have e3 : W.length = W.cps.toList.length := by simp [Str.length]
  rw [e1, e2, e3, List.drop_zero, beq_iff_eq]
  constructor
  · rintro ⟨_, h⟩
    exact ⟨W.cps.toList.drop l.length, by rw [← h, List.length_take, ← h]; simp⟩
  · rintro ⟨r, h⟩
    rw [h]
    exact ⟨by simp, by simp⟩
theorem at_iff (x y : Str) (k : Nat) : StrLaws.At x y x.length k ↔ ∃ r, x.cps.toList.drop k = y.cps.toList ++ r ∧ k + y.length ≤ x.length := by
  unfold StrLaws.At
  rw [subAt_eq, beq_iff_eq]
  have ey : y.length = y.cps.toList.length := by simp [Str.length]
  constructor
  · rintro ⟨h1, h2⟩
    refine ⟨(x.cps.toList.drop k).drop y.length, ?_, h1⟩
    conv => lhs; rw [← List.take_append_drop y.length (x.cps.toList.drop k)]
    rw [h2]
  · rintro ⟨r, h, h1⟩
    refine ⟨h1, ?_⟩
    rw [h, ey]; simp
theorem slashes_list : slashes.cps.toList = [47, 47] := by rw [slashes_eq]; simp [tx]
theorem slashes_len : slashes.length = 2 := by rw [slashes_eq]; simp [tx, Str.length]
/- the first cut behind p lies at the end of a piece without '/' -/
theorem chain_first {x : Str} {p f : Nat} {cuts : List Nat} {a r : List Nat} (hG : ChainG x slashes x.length p cuts f) (hn : ∀ k, f ≤ k → ¬ StrLaws.At x slashes x.length k)
    (hx : x.cps.toList.drop p = a ++ 47 :: 47 :: r) (ha : 47 ∉ a) : ∃ cuts', cuts = (p + a.length) :: cuts' ∧ ChainG x slashes x.length (p + a.length + 2) cuts' f := by
  have hp : p ≤ x.cps.toList.length := by
    rcases Nat.lt_or_ge x.cps.toList.length p with h | h
    · rw [List.drop_of_length_le (Nat.le_of_lt h)] at hx
      exact absurd (congrArg List.length hx) (by simp)
    · exact h
  have hlen := congrArg List.length hx
  rw [List.length_drop, List.length_append] at hlen
  simp only [List.length_cons] at hlen
  have hL : x.length = x.cps.toList.length := by simp [Str.length]
  have hat : StrLaws.At x slashes x.length (p + a.length) := by
    rw [at_iff]
    refine ⟨r, ?_, by rw [slashes_len]; omega⟩
    rw [← List.drop_drop, hx, slashes_list]; simp
  have hno : ∀ k, p ≤ k → k < p + a.length → ¬ StrLaws.At x slashes x.length k := by
    intro k h1 h2 h
    rw [at_iff] at h
    obtain ⟨r', e, _⟩ := h
    have ek : k = p + (k - p) := by omega
    rw [ek, ← List.drop_drop, hx, slashes_list, List.drop_append_of_le_length (by omega)] at e
    cases q : a.drop (k - p) with
    | nil =>
      have := congrArg List.length q
      rw [List.length_drop] at this
      simp at this
      omega
    | cons b t =>
      rw [q] at e
      simp only [List.cons_append] at e
      have hb : b = 47 := (List.cons.inj e).1
      subst hb; exact ha (List.mem_of_mem_drop (i := k - p) (by rw [q]; exact List.mem_cons_self ..))
  cases cuts with
  | nil =>
    have ef : f = p := hG
    exact absurd hat (hn _ (by omega))
  | cons c cuts' =>
    obtain ⟨h1, h2, h3, h4⟩ := hG
    have ec : c = p + a.length := by
      rcases Nat.lt_trichotomy c (p + a.length) with h | h | h
      · exact absurd h2 (hno c h1 h)
      · exact h
      · exact absurd hat (h3 _ (by omega) h)
    subst ec
    rw [slashes_len] at h4
    exact ⟨cuts', rfl, h4⟩
theorem kind_slashes (x : Str) : ¬ Str.strKind x < Str.strKind slashes := by
  rw [slashes_eq]
  have : Str.strKind (tx [47, 47]) = 1 := by decide +kernel
  rw [this]
  unfold Str.strKind
  split
  · omega
  · split <;> omega
theorem sub_list (x : Str) (l : List Nat) (p n : Nat) (a r : List Nat) (hx : x.cps.toList.drop p = a ++ r) (hn : n = p + a.length) : strSub x p n = tx a := by
  subst hn
  refine PySem.Str.ext' (Array.toList_inj.mp ?_)
  rw [strSub_toList, hx]
  have : p + a.length - p = a.length := by omega
  rw [this]; simp [tx]
theorem pieces_of {W : Str} {a b c r : List Nat} (ha : 47 ∉ a) (hb : 47 ∉ b) (hc : 47 ∉ c) (hW : W.cps.toList = a ++ 47 :: 47 :: (b ++ 47 :: 47 :: (c ++ 47 :: 47 :: r))) :
    ∃ q, q ≠ [] ∧ piecesL W = tx a :: tx b :: tx c :: q := by
  obtain ⟨f, hG, hn⟩ := occ_tight W slashes (by rw [slashes_len]; decide)
  have h0 : W.cps.toList.drop 0 = a ++ 47 :: 47 :: (b ++ 47 :: 47 :: (c ++ 47 :: 47 :: r)) := by rw [List.drop_zero]; exact hW
  obtain ⟨c1, e1, g1⟩ := chain_first hG hn h0 ha
  have h1 : W.cps.toList.drop (0 + a.length + 2) = b ++ 47 :: 47 :: (c ++ 47 :: 47 :: r) := by
    rw [Nat.zero_add, ← List.drop_drop, hW]; simp
  obtain ⟨c2, e2, g2⟩ := chain_first g1 hn h1 hb
  have h2 : W.cps.toList.drop (0 + a.length + 2 + b.length + 2) = c ++ 47 :: 47 :: r := by
    rw [← List.drop_drop, ← List.drop_drop, h1]; simp
  obtain ⟨c3, e3, g3⟩ := chain_first g2 hn h2 hc
  have hlen := congrArg List.length hW
  simp only [List.length_append, List.length_cons] at hlen
  have hL : W.length = W.cps.toList.length := by simp [Str.length]
  unfold piecesL Txt.split
  rw [if_neg (by
    rw [Bool.or_eq_true, decide_eq_true_eq, decide_eq_true_eq]
    rintro (h | h)
    · rw [slashes_len] at h; omega
    · exact kind_slashes W h)]
  rw [e1, if_neg (by simp), partsBetween_eq, e2, e3, slashes_len]
  refine ⟨partsFrom W 2 (0 + a.length + 2 + b.length + 2 + c.length + 2) c3, ?_, ?_⟩
  · obtain ⟨p, q, e⟩ := partsFrom_ne W 2 (0 + a.length + 2 + b.length + 2 + c.length + 2) c3
    rw [e]; exact List.cons_ne_nil _ _
  · show strSub W 0 _ :: strSub W _ _ :: strSub W _ _ :: partsFrom W 2 _ c3 = _
    rw [sub_list W [] 0 _ _ _ h0 rfl, sub_list W [] _ _ _ _ h1 rfl, sub_list W [] _ _ _ _ h2 rfl]
theorem begun_of {W : Str} {a b c r : List Nat} (ha : 47 ∉ a) (hb : 47 ∉ b) (hc : 47 ∉ c) (hW : W.cps.toList = a ++ 47 :: 47 :: (b ++ 47 :: 47 :: (c ++ 47 :: 47 :: r))) :
    3 < (piecesL W).length ∧ begunS W = tx (a ++ 47 :: 47 :: (b ++ 47 :: 47 :: (c ++ [47, 47]))) := by
  obtain ⟨q, hq, e⟩ := pieces_of ha hb hc hW
  refine ⟨?_, ?_⟩
  · rw [e]
    cases q with
    | nil => exact absurd rfl hq
    | cons _ _ => simp
  · unfold begunS
    rw [e]
    show (tx a ++ slashes ++ (tx b ++ slashes ++ tx c)) ++ slashes = _
    rw [slashes_eq]
    simp only [tx_app, List.append_assoc, List.cons_append, List.nil_append]
theorem start_of_begun {W : Str} (h : 3 < (piecesL W).length) : ∃ r, W.cps.toList = (begunS W).cps.toList ++ r := by
  have hj : Str.join slashes (piecesL W) = W := join_split W slashes
  unfold begunS
  match q : piecesL W, h with
  | a :: b :: c :: d :: t, _ =>
    rw [q] at hj
    refine ⟨(Str.join slashes (d :: t)).cps.toList, ?_⟩
    conv => lhs; rw [← hj]
    show (a ++ slashes ++ (b ++ slashes ++ (c ++ slashes ++ Str.join slashes (d :: t)))).cps.toList = ((a ++ slashes ++ (b ++ slashes ++ c)) ++ slashes).cps.toList ++ _
    simp only [PySem.Str.cps_append, Array.toList_append, List.append_assoc]
end
/- a beginning of three pieces -/
noncomputable def cutAt : List Nat → List Nat × List Nat
  | [] => ([], [])
  | 47 :: r => ([], 47 :: r)
  | a :: r => let p := cutAt r; (a :: p.1, p.2)
noncomputable def tripleB (l : List Nat) : Bool :=
  let p := cutAt l; let q := cutAt (p.2.drop 2); let r := cutAt (q.2.drop 2)
  decide (l = p.1 ++ 47 :: 47 :: (q.1 ++ 47 :: 47 :: (r.1 ++ [47, 47]))) && !p.1.contains 47 && !q.1.contains 47 && !r.1.contains 47
theorem triple_of {l : List Nat} (h : tripleB l = true) : ∃ a b c, 47 ∉ a ∧ 47 ∉ b ∧ 47 ∉ c ∧ l = a ++ 47 :: 47 :: (b ++ 47 :: 47 :: (c ++ [47, 47])) := by
  unfold tripleB at h
  simp only [Bool.and_eq_true, Bool.not_eq_true', decide_eq_true_eq] at h
  obtain ⟨⟨⟨h1, h2⟩, h3⟩, h4⟩ := h
  exact ⟨_, _, _, by simpa using h2, by simpa using h3, by simpa using h4, h1⟩
theorem known_triple : (knownN.all tripleB) = true := by decide +kernel
theorem known_nodupN : knownN.Nodup := by decide +kernel
theorem tx_ne : ∀ a b : List Nat, a ≠ b → tx a ≠ tx b := fun _ _ h e => h (tx_inj e)
theorem known_nodup : knownL.Nodup := by
  rw [knownL_eq]
  exact List.Pairwise.map _ tx_ne known_nodupN
theorem starts_known {W z : Str} (hz : z ∈ knownL) : Txt.startswith W z = true ↔ 3 < (piecesL W).length ∧ begunS W = z := by
  rw [knownL_eq] at hz
  obtain ⟨l, hl, rfl⟩ := List.mem_map.mp hz
  obtain ⟨a, b, c, ha, hb, hc, e⟩ := triple_of (List.all_eq_true.mp known_triple l hl)
  rw [starts_iff]
  constructor
  · rintro ⟨r, h⟩
    have hW : W.cps.toList = a ++ 47 :: 47 :: (b ++ 47 :: 47 :: (c ++ 47 :: 47 :: r)) := by
      rw [h, e]; simp
    have := begun_of ha hb hc hW
    rw [e]; exact this
  · rintro ⟨h3, hb⟩
    obtain ⟨r, h⟩ := start_of_begun h3
    rw [hb] at h
    exact ⟨r, by rw [h]; simp [tx]⟩
theorem any_known {W : Str} {zs : List Str} (hs : ∀ z ∈ zs, z ∈ knownL) : anyStart W zs = true ↔ 3 < (piecesL W).length ∧ begunS W ∈ zs := by
  unfold anyStart
  rw [List.any_eq_true]
  constructor
  · rintro ⟨z, hz, h⟩
    obtain ⟨h1, h2⟩ := (starts_known (hs z hz)).mp h
    exact ⟨h1, h2 ▸ hz⟩
  · rintro ⟨h1, h2⟩
    exact ⟨_, h2, (starts_known (hs _ h2)).mpr ⟨h1, rfl⟩⟩
theorem mem_take_idx {l : List Str} {z : Str} (hn : l.Nodup) (n : Nat) : z ∈ l.take n ↔ z ∈ l ∧ l.idxOf z < n := by
  constructor
  · intro h
    refine ⟨List.mem_of_mem_take h, ?_⟩
    obtain ⟨j, hj, e⟩ := List.getElem_of_mem h
    rw [List.length_take] at hj
    rw [List.getElem_take] at e
    have : l.idxOf z = j := by rw [← e]; exact hn.idxOf_getElem j (by omega)
    omega
  · rintro ⟨h, hi⟩
    have hl : l.idxOf z < l.length := List.idxOf_lt_length_of_mem h
    refine List.mem_of_getElem? (i := l.idxOf z) ?_
    rw [List.getElem?_take_of_lt hi, List.getElem?_eq_getElem hl, List.getElem_idxOf]
theorem loose_eqN : knownN.drop 55 = [[45,47,47,119,51,99,47,47,100,116,100,32,104,116,109,108,32,52,46,48,49,32,102,114,97,109,101,115,101,116,47,47], [45,47,47,119,51,99,47,47,100,116,100,32,104,116,109,108,32,52,46,48,49,32,116,114,97,110,115,105,116,105,111,110,97,108,47,47], [45,47,47,119,51,99,47,47,100,116,100,32,120,104,116,109,108,32,49,46,48,32,102,114,97,109,101,115,101,116,47,47], [45,47,47,119,51,99,47,47,100,116,100,32,120,104,116,109,108,32,49,46,48,32,116,114,97,110,115,105,116,105,111,110,97,108,47,47]] := by decide +kernel
theorem known_split : knownL = knownL.take 55 ++ (looseL ++ alwaysL) := by
  have h : knownL.drop 55 = looseL ++ alwaysL := by
    rw [knownL_eq, ← List.map_drop, loose_eqN]
    exact (cons_eq (ofS ['-','/','/','w','3','c','/','/','d','t','d',' ','h','t','m','l',' ','4','.','0','1',' ','f','r','a','m','e','s','e','t','/','/']) (cons_eq (ofS ['-','/','/','w','3','c','/','/','d','t','d',' ','h','t','m','l',' ','4','.','0','1',' ','t','r','a','n','s','i','t','i','o','n','a','l','/','/']) (cons_eq (ofS ['-','/','/','w','3','c','/','/','d','t','d',' ','x','h','t','m','l',' ','1','.','0',' ','f','r','a','m','e','s','e','t','/','/']) (cons_eq (ofS ['-','/','/','w','3','c','/','/','d','t','d',' ','x','h','t','m','l',' ','1','.','0',' ','t','r','a','n','s','i','t','i','o','n','a','l','/','/']) rfl)))).symm
  rw [← h, List.take_append_drop]
theorem class_pub {z : Str} : z ∈ publicL ↔ z ∈ knownL ∧ knownL.idxOf z < 55 := by
  rw [public_perm.mem_iff]
  exact mem_take_idx known_nodup 55
theorem class_la {z : Str} (h : z ∈ looseL ++ alwaysL) : z ∈ knownL ∧ knownL.idxOf z = (looseL ++ alwaysL).idxOf z + 55 := by
  have hn := known_nodup
  rw [known_split] at hn
  have hz : z ∉ knownL.take 55 := fun h' => (List.nodup_append.mp hn).2.2 z h' z h rfl
  refine ⟨by rw [known_split]; exact List.mem_append.mpr (.inr h), ?_⟩
  conv => lhs; rw [known_split]
  rw [List.idxOf_append, if_neg hz, List.length_take, known_len]; rfl
theorem la_nodup : (looseL ++ alwaysL).Nodup := by
  have hn := known_nodup
  rw [known_split] at hn
  exact (List.nodup_append.mp hn).2.1
theorem class_loose {z : Str} (h : z ∈ looseL) : z ∈ knownL ∧ 55 ≤ knownL.idxOf z ∧ knownL.idxOf z < 57 := by
  obtain ⟨h1, h2⟩ := class_la (List.mem_append.mpr (.inl h))
  rw [List.idxOf_append, if_pos h] at h2
  have h3 : looseL.idxOf z < 2 := List.idxOf_lt_length_of_mem h
  exact ⟨h1, by omega, by omega⟩
theorem class_always {z : Str} (h : z ∈ alwaysL) : z ∈ knownL ∧ 57 ≤ knownL.idxOf z := by
  obtain ⟨h1, h2⟩ := class_la (List.mem_append.mpr (.inr h))
  have hz : z ∉ looseL := fun h' => (List.nodup_append.mp la_nodup).2.2 z h' z h rfl
  rw [List.idxOf_append, if_neg hz] at h2
  have h3 : looseL.length = 2 := rfl
  exact ⟨h1, by omega⟩
theorem class_all {z : Str} (h : z ∈ knownL) : z ∈ publicL ∨ z ∈ looseL ∨ z ∈ alwaysL := by
  rw [known_split] at h
  rcases List.mem_append.mp h with h | h
  · exact .inl (public_perm.mem_iff.mpr h)
  · exact .inr (List.mem_append.mp h)
theorem pub_known : ∀ z ∈ publicL, z ∈ knownL := fun _ h => (class_pub.mp h).1
theorem loose_known : ∀ z ∈ looseL, z ∈ knownL := fun _ h => (class_loose h).1
theorem always_known : ∀ z ∈ alwaysL, z ∈ knownL := fun _ h => (class_always h).1
theorem not_of {a : Bool} {P : Prop} (h : a = true ↔ P) (hp : ¬ P) : a = false := by
  cases a with
  | false => rfl
  | true => exact absurd (h.mp rfl) hp
/- what the law finds and what the beginnings say -/
theorem kind_cases (W : Str) :
    (wholesL.contains W = true ∧ kindS W = 1) ∨
    (wholesL.contains W = false ∧ kindS W = 1 ∧ anyStart W publicL = true) ∨
    (wholesL.contains W = false ∧ kindS W = 2 ∧ anyStart W publicL = false ∧ anyStart W looseL = true ∧ anyStart W alwaysL = false) ∨
    (wholesL.contains W = false ∧ kindS W = 3 ∧ anyStart W publicL = false ∧ anyStart W looseL = false ∧ anyStart W alwaysL = true) ∨
    (wholesL.contains W = false ∧ kindS W = 0 ∧ anyStart W publicL = false ∧ anyStart W looseL = false ∧ anyStart W alwaysL = false) := by
  have ew : wholesL.any (· == W) = wholesL.contains W := by
    rw [List.contains_eq_any_beq]; congr 1; funext y; exact Bool.beq_comm ..
  cases hw : wholesL.contains W with
  | true => exact .inl ⟨rfl, (kd1 (by rw [ew]; exact hw)).symm⟩
  | false =>
    have hw' : wholesL.any (· == W) = false := by rw [ew]; exact hw
    refine .inr ?_
    by_cases h3 : 3 < (piecesL W).length
    · have h3' : (3 : Int) < ((piecesL W).length : Nat) := by omega
      cases hk : knownL.any (· == begunS W) with
      | false =>
        have hm : begunS W ∉ knownL := fun h => by
          rw [List.any_eq_false] at hk
          exact hk _ h (beq_self_eq_true _)
        refine .inr (.inr (.inr ⟨rfl, (kd5 hw' hk).symm, ?_, ?_, ?_⟩))
        · exact not_of (any_known pub_known) fun q => hm (pub_known _ q.2)
        · exact not_of (any_known loose_known) fun q => hm (loose_known _ q.2)
        · exact not_of (any_known always_known) fun q => hm (always_known _ q.2)
      | true =>
        have hm : begunS W ∈ knownL := known_mem hk
        rcases class_all hm with h | h | h
        · have hi := (class_pub.mp h).2
          exact .inl ⟨rfl, (kd2 hw' h3' rfl hk (by omega)).symm, (any_known pub_known).mpr ⟨h3, h⟩⟩
        · obtain ⟨_, h1, h2⟩ := class_loose h
          refine .inr (.inl ⟨rfl, (kd3 hw' h3' rfl hk (by omega) (by omega)).symm, ?_, (any_known loose_known).mpr ⟨h3, h⟩, ?_⟩)
          · exact not_of (any_known pub_known) fun q => by have := (class_pub.mp q.2).2; omega
          · exact not_of (any_known always_known) fun q => by have := (class_always q.2).2; omega
        · obtain ⟨_, h1⟩ := class_always h
          refine .inr (.inr (.inl ⟨rfl, (kd4 hw' h3' rfl hk (by omega) (by omega)).symm, ?_, ?_, (any_known always_known).mpr ⟨h3, h⟩⟩))
          · exact not_of (any_known pub_known) fun q => by have := (class_pub.mp q.2).2; omega
          · exact not_of (any_known loose_known) fun q => by have := (class_loose q.2).2.2; omega
    · have h3' : ¬ (3 : Int) < ((piecesL W).length : Nat) := by omega
      refine .inr (.inr (.inr ⟨rfl, (kd6 hw' h3' rfl).symm, ?_, ?_, ?_⟩))
      · exact not_of (any_known pub_known) fun q => h3 q.1
      · exact not_of (any_known loose_known) fun q => h3 q.1
      · exact not_of (any_known always_known) fun q => h3 q.1
theorem any_app (W : Str) (a b : List Str) : anyStart W (a ++ b) = (anyStart W a || anyStart W b) := by unfold anyStart; exact List.any_append
theorem plain_law (n p sy : Option Str) (iq : Bool) : modeOf n p sy iq = lawModeB n p sy iq := by
  unfold modeOf lawModeB modeS modeK quirkyB
  by_cases hq : iq = true
  · simp [hq]
  have hq' : iq = false := by simpa using hq
  rcases Classical.em (n = some htmlS) with hn | hn
  rotate_left
  · simp [hn]
  subst hn
  by_cases hi : sy.map foldS = some ibmS
  · simp [hi]
  simp only [hq', hi, Bool.false_or, ne_eq, not_true_eq_false, decide_false, false_or, if_false, Bool.false_eq_true]
  cases p with
  | none => simp [kindI]
  | some x =>
    simp only [Option.map_some, kindI, quirkyP]
    rcases kind_cases (foldS x) with ⟨h1, h2⟩ | ⟨h1, h2, h3⟩ | ⟨h1, h2, h3, h4, h5⟩ | ⟨h1, h2, h3, h4, h5⟩ | ⟨h1, h2, h3, h4, h5⟩
    · have g1 : foldS x ∈ wholesL := by simpa using h1
      simp [g1, h2]
    · simp [h2, h3]
    all_goals (have g1 : foldS x ∉ wholesL := fun g => by rw [List.contains_iff_mem.mpr g] at h1; cases h1)
    · cases sy with
      | none => simp [h2, h4]
      | some y => simp [g1, h2, h3, h4, h5, any_app]
    · cases sy with
      | none => simp [g1, h2, h3, h4, h5]
      | some y => simp [g1, h2, h3, h4, h5, any_app]
    · cases sy with
      | none => simp [g1, h2, h3, h4, h5]
      | some y => simp [g1, h2, h3, h4, h5, any_app]

end
theorem tick_plain : True := by first | walk1 | trivial
section
variable {w : World} {loose : List Str} {mean : ExcName → Option Value} {mg mb : Str → Option Value}
section
variable {prog : Program} {A : Around} {E : Value → Shared → Prop} {s : Shared} {h₀ : Heap} {L : Addr} {m : Str → Option Value} {news : Led}
/- sorted(TUPLE of texts) -/
theorem sorted_tup {l : Addr} {vs : List Value} {ss : List Str} {Q : Value → Shared → Prop} (F : Fr h₀ L s.heap m) (N : News h₀ L s.heap news) (hl : s.heap.IsTuple l vs.toArray) (hS : StrsAre vs ss) (h64 : vs.length < 64)
    (h : ∀ D (vs' : List Value) (ss' : List Str) (e : Nat) (h' : Heap), Fr h₀ L h' m → News h₀ L h' ((D, PySem.W.listOf vs'.toArray e) :: news) → (∀ q ∈ news, q.1 < D) →
      StrsAre vs' ss' → ss'.Perm ss → sortedS ss' = true → Q (.ref D) { s with heap := h' }) :
    wpAny (model prog w) A (call (.builtin "sorted") [.ref l]) Q E s := by
  obtain ⟨o, ho, hc, n, hd⟩ := id hl
  refine Calls.call_function_entry kind_sorted plain_sorted entry_sorted (args_sorted1 _) ?_
  unfold Builtin.«sorted»
  refine wpAny_bind (m := checkCount "sorted" 1 1 _) (wpAny_pure ?_)
  refine wpAny_bind (wpAny_collect_seq l (.inr rfl) ho hc hd (fun h₁ hk => ?_) (by rw [sizeLine_eq]; simp; omega))
  refine wpAny_bind (wpAny_newList ?_)
  have hD : (h₁.push (seqObj "list" vs.toArray 0)).get? h₁.objs.size = some (seqObj "list" vs.toArray 0) := Heap.get?_push_size _ rfl
  refine wpAny_bind (wpAny_holding (wpAny_call_entry slot_list_sort ⟨_, hD, rfl⟩ entry_list_sort (list_sort_treeK strKind_oneLt hD hS.keysOf (fun _ _ _ e => keyKind_strs (e ▸ hS)) h64 fun st' hp hs => ⟨_, rfl, ?_⟩) (args_list_sort _)))
  obtain ⟨ss', a1, a2, a3⟩ := sorted_out_str hS hp hs
  obtain ⟨e, he⟩ := sortedHeap_at (out := (arrOf st').map (·.2)) hD
  have keep : ∀ b x, h₁.get? b = some x → (sortedHeap (h₁.push (seqObj "list" vs.toArray 0)) h₁.objs.size vs ((arrOf st').map (·.2))).get? b = some x := fun b x q => by
    have hb := Heap.lt_size q
    rw [sortedHeap_old (Nat.ne_of_lt hb) (by rw [Heap.size_push]; exact Nat.lt_succ_of_lt hb)]
    exact Heap.get?_push_of_some _ q
  have F₁ := F.kept hk
  have N₁ : News h₀ L h₁ news := N.grown hk
  exact wpAny_pure ⟨_, rfl, h _ ((arrOf st').map (·.2)).toList ss' e _ (F₁.kept keep) (N₁.kept_cons F₁ keep (Nat.le_refl _) he) (fun q hq => Heap.lt_size (N₁ q hq).1) a1 a2 a3⟩
theorem sorted_lst {l : Addr} {vs : List Value} {ss : List Str} {Q : Value → Shared → Prop} (F : Fr h₀ L s.heap m) (N : News h₀ L s.heap news) (hl : s.heap.IsList l vs.toArray) (hS : StrsAre vs ss) (h64 : vs.length < 64)
    (h : ∀ D (vs' : List Value) (ss' : List Str) (e : Nat) (h' : Heap), Fr h₀ L h' m → News h₀ L h' ((D, PySem.W.listOf vs'.toArray e) :: news) → (∀ q ∈ news, q.1 < D) →
      StrsAre vs' ss' → ss'.Perm ss → sortedS ss' = true → Q (.ref D) { s with heap := h' }) :
    wpAny (model prog w) A (call (.builtin "sorted") [.ref l]) Q E s :=
  sorted_N_str F N hl hS h64 fun h' vs' ss' e F' N' a1 a2 a3 => h _ vs' ss' e h' F' N' (fun p hp => Nat.lt_succ_of_lt (Heap.lt_size (N p hp).1)) a1 a2 a3
theorem eqvAll_refl : ∀ ss : List Str, PyData.eqvAll (ss.map .str) (ss.map .str) = true
  | [] => by simp [PyData.eqvAll]
  | a :: r => by simp [PyData.eqvAll, PyData.eqv, eqvAll_refl r]
/- two lists of the same texts are not unequal -/
theorem ne_strs {a b : Addr} {xs ys : List Value} {ss : List Str} {Q : Value → Shared → Prop} (ha : s.heap.IsList a xs.toArray) (hb : s.heap.IsList b ys.toArray) (hi : StrsAre xs ss) (hj : StrsAre ys ss) (hok : ss.all PyData.strOk = true) (hu : A.units + 64 < cLine) (h : Q (.bool false) s) :
    wpAny (model prog w) A (compareOp .NotEq (.ref a) (.ref b)) Q E s := by
  have ra : Reads s.heap (.ref a) (.list (ss.map .str)) [a] := by
    obtain ⟨o, ho, hc, n, hd⟩ := id ha
    exact .list ho hc hd (hi.reads _)
  have rb : Reads s.heap (.ref b) (.list (ss.map .str)) [b] := by
    obtain ⟨o, ho, hc, n, hd⟩ := id hb
    exact .list ho hc hd (hj.reads _)
  have sh : SeqAt.shaped (.list (ss.map .str)) = true := by
    simp only [SeqAt.shaped, PyData.canLay0, canLayAll_strs', hok, PyData.depth, depthAll_strs']
    decide
  refine ne_dataH ra rb sh sh hu ?_
  have : PyData.eqv (.list (ss.map .str)) (.list (ss.map .str)) = true := by
    simp only [PyData.eqv]; exact eqvAll_refl ss
  rw [this]; exact h
end
def leS (a b : Str) : Prop := ¬ b.cps.toList < a.cps.toList
theorem leS_trans {a b c : Str} (h : leS a b) (h2 : leS b c) : leS a c :=
  List.le_trans (α := Nat) (show a.cps.toList ≤ b.cps.toList from h) (show b.cps.toList ≤ c.cps.toList from h2)
theorem leS_anti {a b : Str} (h : leS a b) (h2 : leS b a) : a = b :=
  PySem.Str.ext' (Array.toList_inj.mp (List.le_antisymm (α := Nat) (show a.cps.toList ≤ b.cps.toList from h) (show b.cps.toList ≤ a.cps.toList from h2)))
theorem rising_pairs : ∀ (ss : List Str) (p : Str), risingS p ss = true → (p :: ss).Pairwise leS
  | [], p, _ => by simp
  | x :: r, p, h => by
    have h' : (!PySem.Spec.ltCps x.cps.toList p.cps.toList && risingS x r) = true := h
    rw [Bool.and_eq_true] at h'
    have ih := rising_pairs r x h'.2
    have h1 : leS p x := by
      have := h'.1
      rw [ltCps_eq] at this
      simpa [leS] using this
    refine List.pairwise_cons.mpr ⟨fun z hz => ?_, ih⟩
    rcases List.mem_cons.mp hz with rfl | hz
    · exact h1
    · exact leS_trans h1 ((List.pairwise_cons.mp ih).1 z hz)
theorem sorted_pairs : ∀ (ss : List Str), sortedS ss = true → ss.Pairwise leS
  | [], _ => .nil
  | x :: r, h => rising_pairs r x h
theorem sorted_same {a b : List Str} (hp : a.Perm b) (ha : sortedS a = true) (hb : sortedS b = true) : a = b :=
  hp.eq_of_pairwise (fun _ _ _ _ h1 h2 => leS_anti h1 h2) (sorted_pairs a ha) (sorted_pairs b hb)
noncomputable def risingN : List Nat → List (List Nat) → Bool
  | _, [] => true
  | p, x :: r => !PySem.Spec.ltCps x p && risingN x r
noncomputable def sortedN : List (List Nat) → Bool
  | [] => true
  | x :: r => risingN x r
theorem rising_tx : ∀ (ls : List (List Nat)) (p : List Nat), risingS (tx p) (ls.map tx) = risingN p ls
  | [], _ => rfl
  | x :: r, p => by
    show (!PySem.Spec.ltCps (tx x).cps.toList (tx p).cps.toList && risingS (tx x) (r.map tx)) = (!PySem.Spec.ltCps x p && risingN x r)
    rw [rising_tx r x]; simp [tx]
theorem sorted_tx : ∀ (ls : List (List Nat)), sortedS (ls.map tx) = sortedN ls
  | [] => rfl
  | x :: r => rising_tx r x
theorem known_ok : knownL.all PyData.strOk = true := by
  rw [knownL_eq, List.all_map]
  have h : (knownN.all fun l => l.all (· < 0x110000)) = true := by decide +kernel
  refine List.all_eq_true.mpr fun l hl => ?_
  have := List.all_eq_true.mp h l hl
  simpa [Function.comp, tx, PyData.strOk] using this
theorem all_sub {a b : List Str} (h : ∀ z ∈ a, z ∈ b) (hb : b.all PyData.strOk = true) : a.all PyData.strOk = true :=
  List.all_eq_true.mpr fun z hz => List.all_eq_true.mp hb z (h z hz)
theorem known_57 : knownL.drop 57 = alwaysL := by
  have h : knownL.drop 55 = looseL ++ alwaysL := by
    conv => lhs; rw [known_split]
    rw [List.drop_append_of_le_length (by rw [List.length_take, known_len]; decide), List.drop_of_length_le (by rw [List.length_take, known_len]; decide), List.nil_append]
  rw [show (57 : Nat) = 55 + 2 from rfl, ← List.drop_drop, h]; rfl
theorem known_55 : knownL.drop 55 = looseL ++ alwaysL := by
  conv => lhs; rw [known_split]
  rw [List.drop_append_of_le_length (by rw [List.length_take, known_len]; decide), List.drop_of_length_le (by rw [List.length_take, known_len]; decide), List.nil_append]
theorem sorted_57 : sortedS (knownL.drop 57) = true := by
  rw [knownL_eq, ← List.map_drop, sorted_tx]; decide +kernel
theorem sorted_55 : sortedS (knownL.drop 55) = true := by
  rw [knownL_eq, ← List.map_drop, sorted_tx]; decide +kernel
theorem public_len : publicL.length = 55 := by
  rw [public_perm.length_eq, List.length_take, known_len]; rfl

end
theorem tick_sorts : True := by first | walk1 | trivial
section
variable {w : World} {loose : List Str} {mean : ExcName → Option Value} {mg mb : Str → Option Value}
theorem intLen63 {n : Nat} (h : ¬ ((63 : Nat) : Int) < (n : Int)) : n ≤ 63 := by omega
theorem addr_ne {a b : Addr} (h : a ≠ b) : @Ne Nat a b := h
theorem news_turn {h₀ h : Heap} {L : Addr} {a b c d e : Addr × Obj} (N : News h₀ L h [a, b, c, d, e]) : News h₀ L h ([d] ++ [a, c, e]) := by
  intro p hp
  refine N p ?_
  simp only [List.cons_append, List.nil_append, List.mem_cons, List.not_mem_nil, or_false] at hp ⊢
  rcases hp with h | h | h | h <;> simp [h]
theorem cut_upto (vs : List Value) (n : Nat) : (slicePick vs.toArray none (some (n : Int)) none).toList = vs.take n := (congrArg Array.toList (slicePick_upto' vs.toArray n)).trans (by simp)
theorem cut_from (vs : List Value) (n : Nat) : (slicePick vs.toArray (some (n : Int)) none none).toList = vs.drop n := (congrArg Array.toList (slicePick_from' vs.toArray n)).trans (by simp)
theorem item_strs {prog : Program} {A : Around} {E : Value → Shared → Prop} {s : Shared} {value slice : PySem.Expr} {l : Addr} {vs : List Value} {ss : List Str} {k : Int} {u : Tok} {Q : Value → Shared → Prop}
    (hl : s.heap.IsList l vs.toArray) (hS : StrsAre vs ss) (h0 : 0 ≤ k) (hk : k < (ss.length : Int)) (hb : ss.length ≤ 1000) (h : ∀ y t, y ∈ ss → Q (.str y t) s)
    (hs : subscripted slice false (.ref l) (.int k u) = operate [.ref l, .int k u] (getItem (.ref l) (.int k u)) := by with_unfolding_all rfl) :
    wpAny (model prog w) A (subscriptTail value slice (.ref l) (.int k u)) Q E s := by
  have hlen := StrsAre.length hS
  have hlt : k.toNat < vs.length := by omega
  obtain ⟨y, t, e, hy⟩ := StrsAre.item hS k.toNat vs[k.toNat] (List.getElem?_eq_getElem hlt)
  have hx : vs.toArray[k.toNat]? = some (.str y t) := by
    rw [← e]; simp [List.getElem?_eq_getElem hlt]
  exact tail_any hl.typeIs slot_list_getitem.lookup (wpAny_getItem_list hl h0 (by omega) hx (h y t (List.mem_of_getElem? hy))) hs
theorem fmod_lo (x : Int) {n : Int} (h : 0 < n) : 0 ≤ x.fmod n := Int.fmod_nonneg_of_pos x h
theorem fmod_hi (x : Int) {n : Int} (h : 0 < n) : x.fmod n < n := Int.fmod_lt_of_pos x h
theorem texts_len : (knownL ++ wholesL).length = 62 := by rw [List.length_append, known_len]; rfl
noncomputable def wholesN : List (List Nat) := [[45,47,47,119,51,111,47,47,100,116,100,32,119,51,32,104,116,109,108,32,115,116,114,105,99,116,32,51,46,48,47,47,101,110,47,47], [45,47,119,51,99,47,100,116,100,32,104,116,109,108,32,52,46,48,32,116,114,97,110,115,105,116,105,111,110,97,108,47,101,110], [104,116,109,108]]
theorem wholesL_eq : wholesL = wholesN.map tx := cons_eq (ofS ['-','/','/','w','3','o','/','/','d','t','d',' ','w','3',' ','h','t','m','l',' ','s','t','r','i','c','t',' ','3','.','0','/','/','e','n','/','/']) (cons_eq (ofS ['-','/','w','3','c','/','d','t','d',' ','h','t','m','l',' ','4','.','0',' ','t','r','a','n','s','i','t','i','o','n','a','l','/','e','n']) (cons_eq (ofS ['h','t','m','l']) rfl))
theorem texts_size {y : Str} (h : y ∈ knownL ++ wholesL) : 1 ≤ y.cps.size ∧ y.cps.size ≤ 100 := by
  rw [knownL_eq, wholesL_eq, ← List.map_append] at h
  obtain ⟨l, hl, rfl⟩ := List.mem_map.mp h
  have hd : ((knownN ++ wholesN).all fun l => decide (1 ≤ l.length) && decide (l.length ≤ 100)) = true := by decide +kernel
  have := List.all_eq_true.mp hd l hl
  rw [Bool.and_eq_true, decide_eq_true_eq, decide_eq_true_eq] at this
  simpa [tx] using this
theorem item_opts {prog : Program} {A : Around} {E : Value → Shared → Prop} {s : Shared} {value slice : PySem.Expr} {l : Addr} {vs : List Value} {k : Int} {u : Tok} {Q : Value → Shared → Prop}
    (hl : s.heap.IsList l vs.toArray) (hv : ∀ v ∈ vs, ∃ o t, v = optV o t) (h0 : 0 ≤ k) (hk : k < (vs.length : Int)) (hb : vs.length ≤ 1000) (h : ∀ o t, Q (optV o t) s)
    (hs : subscripted slice false (.ref l) (.int k u) = operate [.ref l, .int k u] (getItem (.ref l) (.int k u)) := by with_unfolding_all rfl) :
    wpAny (model prog w) A (subscriptTail value slice (.ref l) (.int k u)) Q E s := by
  have hlt : k.toNat < vs.length := by omega
  obtain ⟨o, t, e⟩ := hv vs[k.toNat] (List.getElem_mem hlt)
  have hx : vs.toArray[k.toNat]? = some (optV o t) := by
    rw [← e]; simp [List.getElem?_eq_getElem hlt]
  exact tail_any hl.typeIs slot_list_getitem.lookup (wpAny_getItem_list hl h0 (by omega) hx (h o t)) hs
theorem news_tl {h₀ h : Heap} {L : Addr} {a : Addr × Obj} {r : Led} (N : News h₀ L h (a :: r)) : News h₀ L h r := fun p hp => N p (List.mem_cons_of_mem _ hp)
theorem opts_some {x : Str} {t : Tok} : ∃ o t', Value.str x t = optV o t' := ⟨some x, t, rfl⟩
theorem opts_eight {a b c d e f g : Str} {t1 t2 t3 t4 t5 t6 t7 : Tok} : ∀ v ∈ [Value.str a t1, .str b t2, .str c t3, .str d t4, .str e t5, .str f t6, .str g t7, .none], ∃ o t, v = optV o t :=
  List.forall_mem_cons.mpr ⟨opts_some, List.forall_mem_cons.mpr ⟨opts_some, List.forall_mem_cons.mpr ⟨opts_some, List.forall_mem_cons.mpr ⟨opts_some, List.forall_mem_cons.mpr ⟨opts_some, List.forall_mem_cons.mpr ⟨opts_some, List.forall_mem_cons.mpr ⟨opts_some, List.forall_mem_cons.mpr ⟨⟨none, 0, rfl⟩, fun _ h => nomatch h⟩⟩⟩⟩⟩⟩⟩⟩
theorem d_mode' (lk l : Addr) (vk : List Value) (hk59 : StrsAre vk knownL) (n x sy : Option Str) (tn tx ts t0 : Tok) (iq : Bool) (hx : ∀ z, x = some z → z.cps.size ≤ 300) (hs : ∀ z, sy = some z → z.cps.size ≤ 300) : Does w loose mean mg mb 145 2 16 (fun h => (∃ k, h.get? lk = some (PySem.W.listOf vk.toArray k)) ∧ h.IsTuple l (tokV n x sy tn tx ts t0 iq).toArray) [.ref lk, .ref l] (justV fun t => .str (modeOf n x sy iq) t) := by
  rw [plain_law]; exact d_mode lk l vk hk59 n x sy tn tx ts t0 iq hx hs
theorem bad1 {a : Bool} (h : a = false) (h2 : (false != a) = true) : False := by subst h; cases h2
theorem bad2 {a : Bool} (h : (a != a) = true) : False := by simp at h
theorem known_map {m' : Str → Option Value} {a b : Option Value} (h1 : m' (Str.ofString "known") = a) (h2 : m' (Str.ofString "texts") = b) : ∀ y, m' y = if y = Str.ofString "known" then a else if y = Str.ofString "texts" then b else m' y := by
  intro y
  by_cases q1 : y = Str.ofString "known"
  · subst q1; rw [if_pos rfl]; exact h1
  by_cases q2 : y = Str.ofString "texts"
  · subst q2; rw [if_neg q1, if_pos rfl]; exact h2
  rw [if_neg q1, if_neg q2]

end
theorem tick_lawrules : True := by first | walk1 | trivial
section
variable {w : World} {loose : List Str} {mean : ExcName → Option Value} {mg mb : Str → Option Value}
local macro_rules | `(tactic| walk_at "call ref") => `(tactic| (k_here; (with_reducible show wpAny _ _ (call (Value.ref 91) _) _ _ _); (with_reducible rename IntsAre _ _ => hI8); k_dflt (refine' Does.useV (d_digit _ _ _ hI8 (by assumption) _ _ (by omega)) ?dB ?dF ?dX ?dN ?dT ?dk ?dp ?dd ?du ?_; (walk_at "d_use"); (case dp => exact Fr.lst (by k_asm) (by k_asm))); intro t9 h9 tk9 F9 N9; (try dsimp only); (try k_fold)))
set_option maxRecDepth 100000 in
set_option maxHeartbeats 8000000 in
theorem law_holds : PySem.Challenge.rw_nt0587_01.Holds := hd (by
  k_go0
  (all_goals try k_fold)
  rename_i oK oS dK dS N0 X0
  clear X0
  (rename Heap.IsList _ _ _ => hScr)
  (rename IntsAre _ _ => hInts)
  have hLen := intLen63 (by assumption)
  replace dS : oS.data = .cell (some (.ref _)) := dS
  replace dK : oK.data = .cell none := dK
  iterate 5 (first | with_reducible (k_here; (with_reducible show wpAny _ _ (call (Value.ref 84) _) _ _ _); k_dflt (refine Does.useV (d_right _ _ _ _ _ _ _ _ _) (by k_asm) (by k_asm) (by k_asm) (by k_asm) (by k_asm) (by first | exact rfl | assumption) (by exact News.isTup (by k_asm) (by k_mem)) (by ktr_room) (by ktr_units) ?_); intro t9 h9 tk9 F9 N9; ((first | rw [← rt_noname] | rw [← rt_pub (by assumption)] | rw [← rt_name (by assumption)] | rw [← rt_none (by assumption)] | rw [← rt_some (by assumption)])); (try dsimp only); (try k_fold)) | with_reducible (k_here; (with_reducible show wpAny _ _ (subscriptTail _ (PySem.Expr.Slice _ _ none _) (Value.ref _) (Value.ref _)) _ _ _); k_dflt (refine kmk_slice_lit (by k_asm) (by k_asm) (by kmk_list) (by kmk_part) (by kmk_part) (by assumption) ?_ (by with_unfolding_all rfl) (by kmk_pure) (by (simp only [List.size_toArray]; rw [sizeLine_eq]; omega))); intro D' h' F' N' l1; (try k_lt l1)) | walk1)
  with_reducible show wpAny _ _ (call (Value.ref 98) _) _ _ _
  with_reducible (k_dflt (refine' Does.use d_known ?dB ?dF ?dX ?dN ?dT ?dk ?dp ?dd ?du ?_; (walk_at "d_use"); (case dp => exact True.intro)))
  intro rK tlK hK tkK PK FK NK AK
  obtain ⟨lK, ⟨vsK⟩, kK, rfl, rfl, hSK⟩ := PK
  with_reducible ((try simp only [List.cons_append, List.nil_append] at NK); (try dsimp only); (try k_fold))
  have hKc := addr_ne (AK _ (List.Mem.head _) _ (List.Mem.head _))
  have hKs := addr_ne (AK _ (List.Mem.head _) _ (List.Mem.tail _ (List.Mem.head _)))
  dsimp only at hKc hKs
  clear AK
  iterate 11 (first | with_reducible (k_here; (with_reducible show wpAny _ _ (call (Value.ref 84) _) _ _ _); k_dflt (refine Does.useV (d_right _ _ _ _ _ _ _ _ _) (by k_asm) (by k_asm) (by k_asm) (by k_asm) (by k_asm) (by first | exact rfl | assumption) (by exact News.isTup (by k_asm) (by k_mem)) (by ktr_room) (by ktr_units) ?_); intro t9 h9 tk9 F9 N9; ((first | rw [← rt_noname] | rw [← rt_pub (by assumption)] | rw [← rt_name (by assumption)] | rw [← rt_none (by assumption)] | rw [← rt_some (by assumption)])); (try dsimp only); (try k_fold)) | with_reducible (k_here; (with_reducible show wpAny _ _ (subscriptTail _ (PySem.Expr.Slice _ _ none _) (Value.ref _) (Value.ref _)) _ _ _); k_dflt (refine kmk_slice_lit (by k_asm) (by k_asm) (by kmk_list) (by kmk_part) (by kmk_part) (by assumption) ?_ (by with_unfolding_all rfl) (by kmk_pure) (by (simp only [List.size_toArray]; rw [sizeLine_eq]; omega))); intro D' h' F' N' l1; (try k_lt l1)) | walk1)
  with_reducible show wpAny _ _ (call (Value.ref 42) _) _ _ _
  with_reducible (k_dflt (refine' Does.use d_public_starts ?dB ?dF ?dX ?dN ?dT ?dk ?dp ?dd ?du ?_; (walk_at "d_use"); (case dp => exact True.intro)))
  intro rP tlP hP tkP PP FP NP AP
  obtain ⟨lP, ⟨vsP⟩, kP, rfl, rfl, hSP⟩ := PP
  with_reducible ((try simp only [List.cons_append, List.nil_append] at NP); (try dsimp only); (try k_fold))
  (first | with_reducible (k_here; (with_reducible show wpAny _ _ (call (Value.ref 84) _) _ _ _); k_dflt (refine Does.useV (d_right _ _ _ _ _ _ _ _ _) (by k_asm) (by k_asm) (by k_asm) (by k_asm) (by k_asm) (by first | exact rfl | assumption) (by exact News.isTup (by k_asm) (by k_mem)) (by ktr_room) (by ktr_units) ?_); intro t9 h9 tk9 F9 N9; ((first | rw [← rt_noname] | rw [← rt_pub (by assumption)] | rw [← rt_name (by assumption)] | rw [← rt_none (by assumption)] | rw [← rt_some (by assumption)])); (try dsimp only); (try k_fold)) | with_reducible (k_here; (with_reducible show wpAny _ _ (subscriptTail _ (PySem.Expr.Slice _ _ none _) (Value.ref _) (Value.ref _)) _ _ _); k_dflt (refine kmk_slice_lit (by k_asm) (by k_asm) (by kmk_list) (by kmk_part) (by kmk_part) (by assumption) ?_ (by with_unfolding_all rfl) (by kmk_pure) (by (simp only [List.size_toArray]; rw [sizeLine_eq]; omega))); intro D' h' F' N' l1; (try k_lt l1)) | walk1)
  have hvK : vsK.length = 59 := (StrsAre.length hSK).trans known_len
  have hvP : vsP.length = 55 := (StrsAre.length hSP).trans public_len
  have hc55 : (slicePick vsK.toArray none (some 55) none).toList = vsK.take 55 := cut_upto vsK 55
  have hd55 : (slicePick vsK.toArray (some 55) none none).toList = vsK.drop 55 := cut_from vsK 55
  have hd57 : (slicePick vsK.toArray (some 57) none none).toList = vsK.drop 57 := cut_from vsK 57
  with_reducible show wpAny _ _ (call (Value.builtin _) _) _ _ _
  refine sorted_tup (by k_asm) (by k_asm) (News.isTup (by k_asm) (by k_mem)) hSP (by rw [hvP]; decide) ?_
  intro D1 w1 s1 e1 h1 F1 N1 l1 hs1 hp1 ho1
  with_reducible ((try dsimp only); (try k_fold))
  iterate 11 (first | with_reducible (k_here; (with_reducible show wpAny _ _ (call (Value.ref 84) _) _ _ _); k_dflt (refine Does.useV (d_right _ _ _ _ _ _ _ _ _) (by k_asm) (by k_asm) (by k_asm) (by k_asm) (by k_asm) (by first | exact rfl | assumption) (by exact News.isTup (by k_asm) (by k_mem)) (by ktr_room) (by ktr_units) ?_); intro t9 h9 tk9 F9 N9; ((first | rw [← rt_noname] | rw [← rt_pub (by assumption)] | rw [← rt_name (by assumption)] | rw [← rt_none (by assumption)] | rw [← rt_some (by assumption)])); (try dsimp only); (try k_fold)) | with_reducible (k_here; (with_reducible show wpAny _ _ (subscriptTail _ (PySem.Expr.Slice _ _ none _) (Value.ref _) (Value.ref _)) _ _ _); k_dflt (refine kmk_slice_lit (by k_asm) (by k_asm) (by kmk_list) (by kmk_part) (by kmk_part) (by assumption) ?_ (by with_unfolding_all rfl) (by kmk_pure) (by (simp only [List.size_toArray]; rw [sizeLine_eq]; omega))); intro D' h' F' N' l1; (try k_lt l1)) | walk1)
  (first | with_reducible (k_here; (with_reducible show wpAny _ _ (call (Value.ref 84) _) _ _ _); k_dflt (refine Does.useV (d_right _ _ _ _ _ _ _ _ _) (by k_asm) (by k_asm) (by k_asm) (by k_asm) (by k_asm) (by first | exact rfl | assumption) (by exact News.isTup (by k_asm) (by k_mem)) (by ktr_room) (by ktr_units) ?_); intro t9 h9 tk9 F9 N9; ((first | rw [← rt_noname] | rw [← rt_pub (by assumption)] | rw [← rt_name (by assumption)] | rw [← rt_none (by assumption)] | rw [← rt_some (by assumption)])); (try dsimp only); (try k_fold)) | with_reducible (k_here; (with_reducible show wpAny _ _ (subscriptTail _ (PySem.Expr.Slice _ _ none _) (Value.ref _) (Value.ref _)) _ _ _); k_dflt (refine kmk_slice_lit (by k_asm) (by k_asm) (by kmk_list) (by kmk_part) (by kmk_part) (by assumption) ?_ (by with_unfolding_all rfl) (by kmk_pure) (by (simp only [List.size_toArray]; rw [sizeLine_eq]; omega))); intro D' h' F' N' l1; (try k_lt l1)) | walk1)
  (first | with_reducible (k_here; (with_reducible show wpAny _ _ (call (Value.ref 84) _) _ _ _); k_dflt (refine Does.useV (d_right _ _ _ _ _ _ _ _ _) (by k_asm) (by k_asm) (by k_asm) (by k_asm) (by k_asm) (by first | exact rfl | assumption) (by exact News.isTup (by k_asm) (by k_mem)) (by ktr_room) (by ktr_units) ?_); intro t9 h9 tk9 F9 N9; ((first | rw [← rt_noname] | rw [← rt_pub (by assumption)] | rw [← rt_name (by assumption)] | rw [← rt_none (by assumption)] | rw [← rt_some (by assumption)])); (try dsimp only); (try k_fold)) | with_reducible (k_here; (with_reducible show wpAny _ _ (subscriptTail _ (PySem.Expr.Slice _ _ none _) (Value.ref _) (Value.ref _)) _ _ _); k_dflt (refine kmk_slice_lit (by k_asm) (by k_asm) (by kmk_list) (by kmk_part) (by kmk_part) (by assumption) ?_ (by with_unfolding_all rfl) (by kmk_pure) (by (simp only [List.size_toArray]; rw [sizeLine_eq]; omega))); intro D' h' F' N' l1; (try k_lt l1)) | walk1)
  with_reducible show wpAny _ _ (call (Value.builtin _) _) _ _ _
  refine sorted_lst (by k_asm) (by k_asm) (News.isList (by k_asm) (by k_mem)) (StrsAre.take' hSK 55) (by rw [List.length_take, hvK]; decide) ?_
  intro D2 w2 s2 e2 h2 F2 N2 l2 hs2 hp2 ho2
  with_reducible ((try dsimp only); (try k_fold))
  have e12 : s1 = s2 := sorted_same (hp1.trans (public_perm.trans hp2.symm)) ho1 ho2
  subst e12
  have hk1 : s1.all PyData.strOk = true := all_sub (fun z hz => List.mem_of_mem_take (hp2.mem_iff.mp hz)) known_ok
  with_reducible show wpAny _ _ (compareOp CmpOp.NotEq (Value.ref _) (Value.ref _)) _ _ _
  refine ne_strs (News.isList (by k_asm) (by k_mem)) (News.isList (by k_asm) (by k_mem)) hs1 hs2 hk1 (by ke_room) ?_
  clear l1 hs1 hp1 ho1 l2 hs2 hp2 ho2 hk1
  iterate 3 (first | with_reducible (k_here; (with_reducible show wpAny _ _ (call (Value.ref 84) _) _ _ _); k_dflt (refine Does.useV (d_right _ _ _ _ _ _ _ _ _) (by k_asm) (by k_asm) (by k_asm) (by k_asm) (by k_asm) (by first | exact rfl | assumption) (by exact News.isTup (by k_asm) (by k_mem)) (by ktr_room) (by ktr_units) ?_); intro t9 h9 tk9 F9 N9; ((first | rw [← rt_noname] | rw [← rt_pub (by assumption)] | rw [← rt_name (by assumption)] | rw [← rt_none (by assumption)] | rw [← rt_some (by assumption)])); (try dsimp only); (try k_fold)) | with_reducible (k_here; (with_reducible show wpAny _ _ (subscriptTail _ (PySem.Expr.Slice _ _ none _) (Value.ref _) (Value.ref _)) _ _ _); k_dflt (refine kmk_slice_lit (by k_asm) (by k_asm) (by kmk_list) (by kmk_part) (by kmk_part) (by assumption) ?_ (by with_unfolding_all rfl) (by kmk_pure) (by (simp only [List.size_toArray]; rw [sizeLine_eq]; omega))); intro D' h' F' N' l1; (try k_lt l1)) | walk1)
  have N3 : News _ _ h2 [(lK, W.listOf (List.toArray vsK) kK), (_, oK), (_, oS)] := fun p hp => N2 p (List.mem_cons_of_mem _ (List.mem_cons_of_mem _ (List.mem_cons_of_mem _ (List.mem_cons_of_mem _ hp))))
  clear N2 F1 N1 NP FP
  iterate 16 (first | with_reducible (k_here; (with_reducible show wpAny _ _ (call (Value.ref 84) _) _ _ _); k_dflt (refine Does.useV (d_right _ _ _ _ _ _ _ _ _) (by k_asm) (by k_asm) (by k_asm) (by k_asm) (by k_asm) (by first | exact rfl | assumption) (by exact News.isTup (by k_asm) (by k_mem)) (by ktr_room) (by ktr_units) ?_); intro t9 h9 tk9 F9 N9; ((first | rw [← rt_noname] | rw [← rt_pub (by assumption)] | rw [← rt_name (by assumption)] | rw [← rt_none (by assumption)] | rw [← rt_some (by assumption)])); (try dsimp only); (try k_fold)) | with_reducible (k_here; (with_reducible show wpAny _ _ (subscriptTail _ (PySem.Expr.Slice _ _ none _) (Value.ref _) (Value.ref _)) _ _ _); k_dflt (refine kmk_slice_lit (by k_asm) (by k_asm) (by kmk_list) (by kmk_part) (by kmk_part) (by assumption) ?_ (by with_unfolding_all rfl) (by kmk_pure) (by (simp only [List.size_toArray]; rw [sizeLine_eq]; omega))); intro D' h' F' N' l1; (try k_lt l1)) | walk1)
  with_reducible show wpAny _ _ (call (Value.ref 56) _) _ _ _
  with_reducible (k_dflt (refine' Does.use (d_limited true) ?dB ?dF ?dX ?dN ?dT ?dk ?dp ?dd ?du ?_; (walk_at "d_use"); (case dp => exact True.intro)))
  intro rA tlA hA tkA PA FA NA AA
  obtain ⟨lA, ⟨vsA⟩, kA, rfl, rfl, hSA⟩ := PA
  with_reducible ((try simp only [List.cons_append, List.nil_append] at NA); (try dsimp only); (try k_fold))
  replace hSA : StrsAre vsA alwaysL := hSA
  have hvA : vsA.length = 2 := StrsAre.length hSA
  (first | with_reducible (k_here; (with_reducible show wpAny _ _ (call (Value.ref 84) _) _ _ _); k_dflt (refine Does.useV (d_right _ _ _ _ _ _ _ _ _) (by k_asm) (by k_asm) (by k_asm) (by k_asm) (by k_asm) (by first | exact rfl | assumption) (by exact News.isTup (by k_asm) (by k_mem)) (by ktr_room) (by ktr_units) ?_); intro t9 h9 tk9 F9 N9; ((first | rw [← rt_noname] | rw [← rt_pub (by assumption)] | rw [← rt_name (by assumption)] | rw [← rt_none (by assumption)] | rw [← rt_some (by assumption)])); (try dsimp only); (try k_fold)) | with_reducible (k_here; (with_reducible show wpAny _ _ (subscriptTail _ (PySem.Expr.Slice _ _ none _) (Value.ref _) (Value.ref _)) _ _ _); k_dflt (refine kmk_slice_lit (by k_asm) (by k_asm) (by kmk_list) (by kmk_part) (by kmk_part) (by assumption) ?_ (by with_unfolding_all rfl) (by kmk_pure) (by (simp only [List.size_toArray]; rw [sizeLine_eq]; omega))); intro D' h' F' N' l1; (try k_lt l1)) | walk1)
  with_reducible show wpAny _ _ (call (Value.builtin _) _) _ _ _
  refine sorted_tup (by k_asm) (by k_asm) (News.isTup (by k_asm) (by k_mem)) hSA (by rw [hvA]; decide) ?_
  intro D3 w3 s3 e3 h3 F3 N3' l3 hs3 hp3 ho3
  with_reducible ((try dsimp only); (try k_fold))
  iterate 8 (first | with_reducible (k_here; (with_reducible show wpAny _ _ (call (Value.ref 84) _) _ _ _); k_dflt (refine Does.useV (d_right _ _ _ _ _ _ _ _ _) (by k_asm) (by k_asm) (by k_asm) (by k_asm) (by k_asm) (by first | exact rfl | assumption) (by exact News.isTup (by k_asm) (by k_mem)) (by ktr_room) (by ktr_units) ?_); intro t9 h9 tk9 F9 N9; ((first | rw [← rt_noname] | rw [← rt_pub (by assumption)] | rw [← rt_name (by assumption)] | rw [← rt_none (by assumption)] | rw [← rt_some (by assumption)])); (try dsimp only); (try k_fold)) | with_reducible (k_here; (with_reducible show wpAny _ _ (subscriptTail _ (PySem.Expr.Slice _ _ none _) (Value.ref _) (Value.ref _)) _ _ _); k_dflt (refine kmk_slice_lit (by k_asm) (by k_asm) (by kmk_list) (by kmk_part) (by kmk_part) (by assumption) ?_ (by with_unfolding_all rfl) (by kmk_pure) (by (simp only [List.size_toArray]; rw [sizeLine_eq]; omega))); intro D' h' F' N' l1; (try k_lt l1)) | walk1)
  have e3 : s3 = knownL.drop 57 := sorted_same (hp3.trans (by rw [known_57])) ho3 sorted_57
  subst e3
  have hk3 : (knownL.drop 57).all PyData.strOk = true := all_sub (fun z hz => List.mem_of_mem_drop hz) known_ok
  with_reducible ((try k_unfold); (try dsimp only))
  with_reducible show wpAny _ _ (compareOp CmpOp.NotEq (Value.ref _) (Value.ref _)) _ _ _
  refine ne_strs (News.isList (by k_asm) (by k_mem)) (News.isList (by k_asm) (by k_mem)) hs3 (StrsAre.drop' hSK 57) hk3 (by ke_room) ?_
  with_reducible ((try dsimp only); (try k_fold))
  have N5 : News _ _ _ [(lK, W.listOf (List.toArray vsK) kK), (_, oK), (_, oS)] := fun p hp => (by k_asm : News _ _ _ (_ :: _ :: _ :: [(lK, W.listOf (List.toArray vsK) kK), (_, oK), (_, oS)])) p (List.mem_cons_of_mem _ (List.mem_cons_of_mem _ (List.mem_cons_of_mem _ hp)))
  clear N3 NA F2 FA F3 N3' l3 hs3 hp3 ho3 hk3
  iterate 15 (first | with_reducible (k_here; (with_reducible show wpAny _ _ (call (Value.ref 84) _) _ _ _); k_dflt (refine Does.useV (d_right _ _ _ _ _ _ _ _ _) (by k_asm) (by k_asm) (by k_asm) (by k_asm) (by k_asm) (by first | exact rfl | assumption) (by exact News.isTup (by k_asm) (by k_mem)) (by ktr_room) (by ktr_units) ?_); intro t9 h9 tk9 F9 N9; ((first | rw [← rt_noname] | rw [← rt_pub (by assumption)] | rw [← rt_name (by assumption)] | rw [← rt_none (by assumption)] | rw [← rt_some (by assumption)])); (try dsimp only); (try k_fold)) | with_reducible (k_here; (with_reducible show wpAny _ _ (subscriptTail _ (PySem.Expr.Slice _ _ none _) (Value.ref _) (Value.ref _)) _ _ _); k_dflt (refine kmk_slice_lit (by k_asm) (by k_asm) (by kmk_list) (by kmk_part) (by kmk_part) (by assumption) ?_ (by with_unfolding_all rfl) (by kmk_pure) (by (simp only [List.size_toArray]; rw [sizeLine_eq]; omega))); intro D' h' F' N' l1; (try k_lt l1)) | walk1)
  with_reducible show wpAny _ _ (call (Value.ref 56) _) _ _ _
  with_reducible (k_dflt (refine' Does.use (d_limited false) ?dB ?dF ?dX ?dN ?dT ?dk ?dp ?dd ?du ?_; (walk_at "d_use"); (case dp => exact True.intro)))
  intro rB tlB hB tkB PB FB NB AB
  obtain ⟨lB, ⟨vsB⟩, kB, rfl, rfl, hSB⟩ := PB
  with_reducible ((try simp only [List.cons_append, List.nil_append] at NB); (try dsimp only); (try k_fold))
  replace hSB : StrsAre vsB (alwaysL ++ looseL) := hSB
  have hvB : vsB.length = 4 := StrsAre.length hSB
  (first | with_reducible (k_here; (with_reducible show wpAny _ _ (call (Value.ref 84) _) _ _ _); k_dflt (refine Does.useV (d_right _ _ _ _ _ _ _ _ _) (by k_asm) (by k_asm) (by k_asm) (by k_asm) (by k_asm) (by first | exact rfl | assumption) (by exact News.isTup (by k_asm) (by k_mem)) (by ktr_room) (by ktr_units) ?_); intro t9 h9 tk9 F9 N9; ((first | rw [← rt_noname] | rw [← rt_pub (by assumption)] | rw [← rt_name (by assumption)] | rw [← rt_none (by assumption)] | rw [← rt_some (by assumption)])); (try dsimp only); (try k_fold)) | with_reducible (k_here; (with_reducible show wpAny _ _ (subscriptTail _ (PySem.Expr.Slice _ _ none _) (Value.ref _) (Value.ref _)) _ _ _); k_dflt (refine kmk_slice_lit (by k_asm) (by k_asm) (by kmk_list) (by kmk_part) (by kmk_part) (by assumption) ?_ (by with_unfolding_all rfl) (by kmk_pure) (by (simp only [List.size_toArray]; rw [sizeLine_eq]; omega))); intro D' h' F' N' l1; (try k_lt l1)) | walk1)
  with_reducible show wpAny _ _ (call (Value.builtin _) _) _ _ _
  refine sorted_tup (by k_asm) (by k_asm) (News.isTup (by k_asm) (by k_mem)) hSB (by rw [hvB]; decide) ?_
  intro D4 w4 s4 e4 h4 F4 N4 l4 hs4 hp4 ho4
  with_reducible ((try dsimp only); (try k_fold))
  iterate 8 (first | with_reducible (k_here; (with_reducible show wpAny _ _ (call (Value.ref 84) _) _ _ _); k_dflt (refine Does.useV (d_right _ _ _ _ _ _ _ _ _) (by k_asm) (by k_asm) (by k_asm) (by k_asm) (by k_asm) (by first | exact rfl | assumption) (by exact News.isTup (by k_asm) (by k_mem)) (by ktr_room) (by ktr_units) ?_); intro t9 h9 tk9 F9 N9; ((first | rw [← rt_noname] | rw [← rt_pub (by assumption)] | rw [← rt_name (by assumption)] | rw [← rt_none (by assumption)] | rw [← rt_some (by assumption)])); (try dsimp only); (try k_fold)) | with_reducible (k_here; (with_reducible show wpAny _ _ (subscriptTail _ (PySem.Expr.Slice _ _ none _) (Value.ref _) (Value.ref _)) _ _ _); k_dflt (refine kmk_slice_lit (by k_asm) (by k_asm) (by kmk_list) (by kmk_part) (by kmk_part) (by assumption) ?_ (by with_unfolding_all rfl) (by kmk_pure) (by (simp only [List.size_toArray]; rw [sizeLine_eq]; omega))); intro D' h' F' N' l1; (try k_lt l1)) | walk1)
  have e4 : s4 = knownL.drop 55 := sorted_same (hp4.trans (by rw [known_55]; exact List.perm_append_comm)) ho4 sorted_55
  subst e4
  have hk4 : (knownL.drop 55).all PyData.strOk = true := all_sub (fun z hz => List.mem_of_mem_drop hz) known_ok
  with_reducible ((try k_unfold); (try dsimp only))
  with_reducible show wpAny _ _ (compareOp CmpOp.NotEq (Value.ref _) (Value.ref _)) _ _ _
  refine ne_strs (News.isList (by k_asm) (by k_mem)) (News.isList (by k_asm) (by k_mem)) hs4 (StrsAre.drop' hSK 55) hk4 (by ke_room) ?_
  with_reducible ((try dsimp only); (try k_fold))
  have N6 : News _ _ _ [(lK, W.listOf (List.toArray vsK) kK), (_, oK), (_, oS)] := fun p hp => (by k_asm : News _ _ _ (_ :: _ :: _ :: [(lK, W.listOf (List.toArray vsK) kK), (_, oK), (_, oS)])) p (List.mem_cons_of_mem _ (List.mem_cons_of_mem _ (List.mem_cons_of_mem _ hp)))
  clear N5 NB FB F4 N4 l4 hs4 hp4 ho4 hk4 AB AA AP
  iterate 13 (first | with_reducible (k_here; (with_reducible show wpAny _ _ (call (Value.ref 84) _) _ _ _); k_dflt (refine Does.useV (d_right _ _ _ _ _ _ _ _ _) (by k_asm) (by k_asm) (by k_asm) (by k_asm) (by k_asm) (by first | exact rfl | assumption) (by exact News.isTup (by k_asm) (by k_mem)) (by ktr_room) (by ktr_units) ?_); intro t9 h9 tk9 F9 N9; ((first | rw [← rt_noname] | rw [← rt_pub (by assumption)] | rw [← rt_name (by assumption)] | rw [← rt_none (by assumption)] | rw [← rt_some (by assumption)])); (try dsimp only); (try k_fold)) | with_reducible (k_here; (with_reducible show wpAny _ _ (subscriptTail _ (PySem.Expr.Slice _ _ none _) (Value.ref _) (Value.ref _)) _ _ _); k_dflt (refine kmk_slice_lit (by k_asm) (by k_asm) (by kmk_list) (by kmk_part) (by kmk_part) (by assumption) ?_ (by with_unfolding_all rfl) (by kmk_pure) (by (simp only [List.size_toArray]; rw [sizeLine_eq]; omega))); intro D' h' F' N' l1; (try k_lt l1)) | walk1)
  with_reducible show wpAny _ _ (call (Value.ref 105) _) _ _ _
  with_reducible (k_dflt (refine' Does.use d_wholes ?dB ?dF ?dX ?dN ?dT ?dk ?dp ?dd ?du ?_; (walk_at "d_use"); (case dp => exact True.intro)))
  intro rW tlW hW tkW PW FW NW AW
  obtain ⟨lW, ⟨vsW⟩, kW, rfl, rfl, hSW⟩ := PW
  with_reducible ((try simp only [List.cons_append, List.nil_append] at NW); (try dsimp only); (try k_fold))
  replace hSW : StrsAre vsW wholesL := hSW
  have hvW : vsW.length = 3 := StrsAre.length hSW
  with_reducible show wpAny _ _ (binaryOp _ _ _) _ _ _
  refine kmk_add_lit (zs := vsK ++ vsW) (by k_asm) (by k_asm) (News.isList (by k_asm) (by k_mem)) (News.isList (by k_asm) (by k_mem)) rfl ?_ (by rw [sizeLine_eq]; show vsK.length + vsW.length ≤ _; omega)
  intro lT hT FT NT ltT
  k_lt ltT
  with_reducible ((try dsimp only); (try k_fold))
  have hST : StrsAre (vsK ++ vsW) (knownL ++ wholesL) := StrsAre.append' hSK hSW
  iterate 3 (first | with_reducible (k_here; (with_reducible show wpAny _ _ (call (Value.ref 84) _) _ _ _); k_dflt (refine Does.useV (d_right _ _ _ _ _ _ _ _ _) (by k_asm) (by k_asm) (by k_asm) (by k_asm) (by k_asm) (by first | exact rfl | assumption) (by exact News.isTup (by k_asm) (by k_mem)) (by ktr_room) (by ktr_units) ?_); intro t9 h9 tk9 F9 N9; ((first | rw [← rt_noname] | rw [← rt_pub (by assumption)] | rw [← rt_name (by assumption)] | rw [← rt_none (by assumption)] | rw [← rt_some (by assumption)])); (try dsimp only); (try k_fold)) | with_reducible (k_here; (with_reducible show wpAny _ _ (subscriptTail _ (PySem.Expr.Slice _ _ none _) (Value.ref _) (Value.ref _)) _ _ _); k_dflt (refine kmk_slice_lit (by k_asm) (by k_asm) (by kmk_list) (by kmk_part) (by kmk_part) (by assumption) ?_ (by with_unfolding_all rfl) (by kmk_pure) (by (simp only [List.size_toArray]; rw [sizeLine_eq]; omega))); intro D' h' F' N' l1; (try k_lt l1)) | walk1)
  (rename Fr _ _ _ _ => F0)
  (rename News _ _ _ _ => N7')
  have N7 := news_turn N7'
  clear N7'
  try clear NW
  try clear N6
  try clear AW
  walk_at "d_fort"
  iterate 7 (first | with_reducible (k_here; (with_reducible show wpAny _ _ (call (Value.ref 84) _) _ _ _); k_dflt (refine Does.useV (d_right _ _ _ _ _ _ _ _ _) (by k_asm) (by k_asm) (by k_asm) (by k_asm) (by k_asm) (by first | exact rfl | assumption) (by exact News.isTup (by k_asm) (by k_mem)) (by ktr_room) (by ktr_units) ?_); intro t9 h9 tk9 F9 N9; ((first | rw [← rt_noname] | rw [← rt_pub (by assumption)] | rw [← rt_name (by assumption)] | rw [← rt_none (by assumption)] | rw [← rt_some (by assumption)])); (try dsimp only); (try k_fold)) | with_reducible (k_here; (with_reducible show wpAny _ _ (subscriptTail _ (PySem.Expr.Slice _ _ none _) (Value.ref _) (Value.ref _)) _ _ _); k_dflt (refine kmk_slice_lit (by k_asm) (by k_asm) (by kmk_list) (by kmk_part) (by kmk_part) (by assumption) ?_ (by with_unfolding_all rfl) (by kmk_pure) (by (simp only [List.size_toArray]; rw [sizeLine_eq]; omega))); intro D' h' F' N' l1; (try k_lt l1)) | walk1)
  rename_i _ _ _ _ hR FR NR _
  have FC := frame_cast (m' := fun y => if y = Str.ofString "known" then some (.ref lK) else if y = Str.ofString "texts" then some (.ref lT) else none) FR (by
    intro y
    by_cases q1 : y = Str.ofString "known"
    · subst q1; rfl
    by_cases q2 : y = Str.ofString "texts"
    · subst q2; rfl
    simp only [if_neg q1, if_neg q2]; rfl)
  refine loop_t_range (σ := (Str → Option Value) × Obj) rfl (fun c y => if y = Str.ofString "known" then some (.ref lK) else if y = Str.ofString "texts" then some (.ref lT) else c.1 y) (fun c => [(_, c.2)]) [(lT, W.listOf (List.toArray (vsK ++ vsW)) 0), (lK, W.listOf (List.toArray vsK) kK), (_, oS)] (fun _ c => ∃ v, c.2.data = .cell v) (fun _ => none, oK) (adr := [_]) (n := 7) rfl hR (by decide) (by decide) (fun _ => rfl) FC NR ⟨_, dK⟩ ?_ ?_
  · rintro i tI ⟨fI, ok⟩ hI tkI own hi7 ⟨v0, hv0⟩ hoff FI NI
    dsimp only [PyProof.Rows.envOfC] at FI NI hv0
    simp only [List.cons_append, List.nil_append] at NI
    clear FR NR hR FC
    obtain ⟨kI, hkI⟩ : ∃ kI : Int, kI = 0 + (i : Int) := ⟨_, rfl⟩
    have hk0 : 0 ≤ kI := by omega
    have hk7 : kI < 7 := by omega
    rw [← hkI]
    clear hkI hi7
    with_reducible ((try dsimp only); (try k_fold))
    iterate 4 (first | with_reducible (k_here; (with_reducible show wpAny _ _ (call (Value.ref 84) _) _ _ _); k_dflt (refine Does.useV (d_right _ _ _ _ _ _ _ _ _) (by k_asm) (by k_asm) (by k_asm) (by k_asm) (by k_asm) (by first | exact rfl | assumption) (by exact News.isTup (by k_asm) (by k_mem)) (by ktr_room) (by ktr_units) ?_); intro t9 h9 tk9 F9 N9; ((first | rw [← rt_noname] | rw [← rt_pub (by assumption)] | rw [← rt_name (by assumption)] | rw [← rt_none (by assumption)] | rw [← rt_some (by assumption)])); (try dsimp only); (try k_fold)) | with_reducible (k_here; (with_reducible show wpAny _ _ (subscriptTail _ (PySem.Expr.Slice _ _ none _) (Value.ref _) (Value.ref _)) _ _ _); k_dflt (refine kmk_slice_lit (by k_asm) (by k_asm) (by kmk_list) (by kmk_part) (by kmk_part) (by assumption) ?_ (by with_unfolding_all rfl) (by kmk_pure) (by (simp only [List.size_toArray]; rw [sizeLine_eq]; omega))); intro D' h' F' N' l1; (try k_lt l1)) | walk1)
    iterate 63 (first | with_reducible (k_here; (with_reducible show wpAny _ _ (call (Value.ref 84) _) _ _ _); k_dflt (refine Does.useV (d_right _ _ _ _ _ _ _ _ _) (by k_asm) (by k_asm) (by k_asm) (by k_asm) (by k_asm) (by first | exact rfl | assumption) (by exact News.isTup (by k_asm) (by k_mem)) (by ktr_room) (by ktr_units) ?_); intro t9 h9 tk9 F9 N9; ((first | rw [← rt_noname] | rw [← rt_pub (by assumption)] | rw [← rt_name (by assumption)] | rw [← rt_none (by assumption)] | rw [← rt_some (by assumption)])); (try dsimp only); (try k_fold)) | with_reducible (k_here; (with_reducible show wpAny _ _ (subscriptTail _ (PySem.Expr.Slice _ _ none _) (Value.ref _) (Value.ref _)) _ _ _); k_dflt (refine kmk_slice_lit (by k_asm) (by k_asm) (by kmk_list) (by kmk_part) (by kmk_part) (by assumption) ?_ (by with_unfolding_all rfl) (by kmk_pure) (by (simp only [List.size_toArray]; rw [sizeLine_eq]; omega))); intro D' h' F' N' l1; (try k_lt l1)) | walk1)
    with_reducible show wpAny _ _ (subscriptTail _ _ _ _) _ _ _
    refine item_strs (News.isList (by k_asm) (by k_mem)) hST (fmod_lo _ (by decide)) (by rw [texts_len]; exact fmod_hi _ (by decide)) (by rw [texts_len]; decide) ?_
    intro yT tyT hyT
    obtain ⟨hy1, hy2⟩ := texts_size hyT
    clear hyT
    with_reducible ((try dsimp only); (try k_fold))
    iterate 53 (first | with_reducible (k_here; (with_reducible show wpAny _ _ (call (Value.ref 84) _) _ _ _); k_dflt (refine Does.useV (d_right _ _ _ _ _ _ _ _ _) (by k_asm) (by k_asm) (by k_asm) (by k_asm) (by k_asm) (by first | exact rfl | assumption) (by exact News.isTup (by k_asm) (by k_mem)) (by ktr_room) (by ktr_units) ?_); intro t9 h9 tk9 F9 N9; ((first | rw [← rt_noname] | rw [← rt_pub (by assumption)] | rw [← rt_name (by assumption)] | rw [← rt_none (by assumption)] | rw [← rt_some (by assumption)])); (try dsimp only); (try k_fold)) | with_reducible (k_here; (with_reducible show wpAny _ _ (subscriptTail _ (PySem.Expr.Slice _ _ none _) (Value.ref _) (Value.ref _)) _ _ _); k_dflt (refine kmk_slice_lit (by k_asm) (by k_asm) (by kmk_list) (by kmk_part) (by kmk_part) (by assumption) ?_ (by with_unfolding_all rfl) (by kmk_pure) (by (simp only [List.size_toArray]; rw [sizeLine_eq]; omega))); intro D' h' F' N' l1; (try k_lt l1)) | walk1)
    with_reducible show wpAny _ _ (call (Value.ref 126) _) _ _ _
    with_reducible (k_dflt (refine' Does.use (d_lawpublic _ _ _ _ _ _ hy1 hy2) ?dB ?dF ?dX ?dN ?dT ?dk ?dp ?dd ?du ?_; (walk_at "d_use"); (case dp => exact True.intro)))
    intro rU tlU hU tkU PU FU NU AU
    obtain ⟨rfl, oP, tP, rfl, hPs⟩ := PU
    with_reducible ((try simp only [List.cons_append, List.nil_append] at NU); (try dsimp only); (try k_fold))
    clear AU
    iterate 40 (first | with_reducible (k_here; (with_reducible show wpAny _ _ (call (Value.ref 84) _) _ _ _); k_dflt (refine Does.useV (d_right _ _ _ _ _ _ _ _ _) (by k_asm) (by k_asm) (by k_asm) (by k_asm) (by k_asm) (by first | exact rfl | assumption) (by exact News.isTup (by k_asm) (by k_mem)) (by ktr_room) (by ktr_units) ?_); intro t9 h9 tk9 F9 N9; ((first | rw [← rt_noname] | rw [← rt_pub (by assumption)] | rw [← rt_name (by assumption)] | rw [← rt_none (by assumption)] | rw [← rt_some (by assumption)])); (try dsimp only); (try k_fold)) | with_reducible (k_here; (with_reducible show wpAny _ _ (subscriptTail _ (PySem.Expr.Slice _ _ none _) (Value.ref _) (Value.ref _)) _ _ _); k_dflt (refine kmk_slice_lit (by k_asm) (by k_asm) (by kmk_list) (by kmk_part) (by kmk_part) (by assumption) ?_ (by with_unfolding_all rfl) (by kmk_pure) (by (simp only [List.size_toArray]; rw [sizeLine_eq]; omega))); intro D' h' F' N' l1; (try k_lt l1)) | walk1)
    with_reducible show wpAny _ _ (call (Value.ref 133) _) _ _ _
    with_reducible (k_dflt (refine' Does.use (d_system _ _ _ _ (fmod_lo _ (by decide)) (fmod_hi _ (by decide))) ?dB ?dF ?dX ?dN ?dT ?dk ?dp ?dd ?du ?_; (walk_at "d_use"); (case dp => exact True.intro)))
    intro rY tlY hY tkY PY FY NY AY
    obtain ⟨rfl, oY, tY, rfl, hYs⟩ := PY
    with_reducible ((try simp only [List.cons_append, List.nil_append] at NY); (try dsimp only); (try k_fold))
    clear AY
    replace NY := news_tl (news_tl (news_tl NY))
    iterate 30 (first | with_reducible (k_here; (with_reducible show wpAny _ _ (call (Value.ref 84) _) _ _ _); k_dflt (refine Does.useV (d_right _ _ _ _ _ _ _ _ _) (by k_asm) (by k_asm) (by k_asm) (by k_asm) (by k_asm) (by first | exact rfl | assumption) (by exact News.isTup (by k_asm) (by k_mem)) (by ktr_room) (by ktr_units) ?_); intro t9 h9 tk9 F9 N9; ((first | rw [← rt_noname] | rw [← rt_pub (by assumption)] | rw [← rt_name (by assumption)] | rw [← rt_none (by assumption)] | rw [← rt_some (by assumption)])); (try dsimp only); (try k_fold)) | with_reducible (k_here; (with_reducible show wpAny _ _ (subscriptTail _ (PySem.Expr.Slice _ _ none _) (Value.ref _) (Value.ref _)) _ _ _); k_dflt (refine kmk_slice_lit (by k_asm) (by k_asm) (by kmk_list) (by kmk_part) (by kmk_part) (by assumption) ?_ (by with_unfolding_all rfl) (by kmk_pure) (by (simp only [List.size_toArray]; rw [sizeLine_eq]; omega))); intro D' h' F' N' l1; (try k_lt l1)) | walk1)
    with_reducible show wpAny _ _ (subscriptTail _ _ _ _) _ _ _
    refine item_opts (News.isList (by k_asm) (by k_mem)) opts_eight (fmod_lo _ (by decide)) (by show _ < ((8 : Nat) : Int); exact fmod_hi _ (by decide)) (Nat.le_of_ble_eq_true rfl) ?_
    intro oN tN
    with_reducible ((try dsimp only); (try k_fold))
    iterate 40 (first | with_reducible (k_here; (with_reducible show wpAny _ _ (call (Value.ref 84) _) _ _ _); k_dflt (refine Does.useV (d_right _ _ _ _ _ _ _ _ _) (by k_asm) (by k_asm) (by k_asm) (by k_asm) (by k_asm) (by first | exact rfl | assumption) (by exact News.isTup (by k_asm) (by k_mem)) (by ktr_room) (by ktr_units) ?_); intro t9 h9 tk9 F9 N9; ((first | rw [← rt_noname] | rw [← rt_pub (by assumption)] | rw [← rt_name (by assumption)] | rw [← rt_none (by assumption)] | rw [← rt_some (by assumption)])); (try dsimp only); (try k_fold)) | with_reducible (k_here; (with_reducible show wpAny _ _ (subscriptTail _ (PySem.Expr.Slice _ _ none _) (Value.ref _) (Value.ref _)) _ _ _); k_dflt (refine kmk_slice_lit (by k_asm) (by k_asm) (by kmk_list) (by kmk_part) (by kmk_part) (by assumption) ?_ (by with_unfolding_all rfl) (by kmk_pure) (by (simp only [List.size_toArray]; rw [sizeLine_eq]; omega))); intro D' h' F' N' l1; (try k_lt l1)) | walk1)
    have hP10 : ∀ z, oP = some z → z.cps.size ≤ 1000 := fun z e => Nat.le_trans (hPs z e) (by decide)
    have hY10 : ∀ z, oY = some z → z.cps.size ≤ 1000 := fun z e => Nat.le_trans (hYs z e) (by decide)
    have hY3 : ∀ z, oY = some z → z.cps.size ≤ 300 := fun z e => Nat.le_trans (hYs z e) (by decide)
    with_reducible show wpAny _ _ (call (Value.ref 77) _) _ _ _
    with_reducible (k_dflt (refine' Does.useV (d_quirks_of _ oN oP oY tN tP tY _ _ hP10 hY10) ?dB ?dF ?dX ?dN ?dT ?dk ?dp ?dd ?du ?_; (walk_at "d_use"); (case dp => exact News.isTup (by k_asm) (by k_mem))))
    intro tQ hQ tkQ FQ NQ
    with_reducible ((try dsimp only); (try k_fold))
    iterate 9 (first | with_reducible (k_here; (with_reducible show wpAny _ _ (call (Value.ref 84) _) _ _ _); k_dflt (refine Does.useV (d_right _ _ _ _ _ _ _ _ _) (by k_asm) (by k_asm) (by k_asm) (by k_asm) (by k_asm) (by first | exact rfl | assumption) (by exact News.isTup (by k_asm) (by k_mem)) (by ktr_room) (by ktr_units) ?_); intro t9 h9 tk9 F9 N9; ((first | rw [← rt_noname] | rw [← rt_pub (by assumption)] | rw [← rt_name (by assumption)] | rw [← rt_none (by assumption)] | rw [← rt_some (by assumption)])); (try dsimp only); (try k_fold)) | with_reducible (k_here; (with_reducible show wpAny _ _ (subscriptTail _ (PySem.Expr.Slice _ _ none _) (Value.ref _) (Value.ref _)) _ _ _); k_dflt (refine kmk_slice_lit (by k_asm) (by k_asm) (by kmk_list) (by kmk_part) (by kmk_part) (by assumption) ?_ (by with_unfolding_all rfl) (by kmk_pure) (by (simp only [List.size_toArray]; rw [sizeLine_eq]; omega))); intro D' h' F' N' l1; (try k_lt l1)) | walk1)
    with_reducible show wpAny _ _ (call (Value.ref 145) _) _ _ _
    with_reducible (k_dflt (refine' Does.useV (d_mode' _ _ _ hSK oN oP oY tN tP tY _ _ hPs hY3) ?dB ?dF ?dX ?dN ?dT ?dk ?dp ?dd ?du ?_; (walk_at "d_use"); (case dp => exact ⟨⟨_, (NQ (lK, PySem.W.listOf (List.toArray vsK) kK) (by k_mem)).1⟩, News.isTup (by k_asm) (by k_mem)⟩)))
    intro tM hM tkM FM NM
    with_reducible ((try dsimp only); (try k_fold))
    (first | with_reducible (k_here; (with_reducible show wpAny _ _ (call (Value.ref 84) _) _ _ _); k_dflt (refine Does.useV (d_right _ _ _ _ _ _ _ _ _) (by k_asm) (by k_asm) (by k_asm) (by k_asm) (by k_asm) (by first | exact rfl | assumption) (by exact News.isTup (by k_asm) (by k_mem)) (by ktr_room) (by ktr_units) ?_); intro t9 h9 tk9 F9 N9; ((first | rw [← rt_noname] | rw [← rt_pub (by assumption)] | rw [← rt_name (by assumption)] | rw [← rt_none (by assumption)] | rw [← rt_some (by assumption)])); (try dsimp only); (try k_fold)) | with_reducible (k_here; (with_reducible show wpAny _ _ (subscriptTail _ (PySem.Expr.Slice _ _ none _) (Value.ref _) (Value.ref _)) _ _ _); k_dflt (refine kmk_slice_lit (by k_asm) (by k_asm) (by kmk_list) (by kmk_part) (by kmk_part) (by assumption) ?_ (by with_unfolding_all rfl) (by kmk_pure) (by (simp only [List.size_toArray]; rw [sizeLine_eq]; omega))); intro D' h' F' N' l1; (try k_lt l1)) | walk1)
    rw [bne_self_eq_false]
    iterate 4 (first | with_reducible (k_here; (with_reducible show wpAny _ _ (call (Value.ref 84) _) _ _ _); k_dflt (refine Does.useV (d_right _ _ _ _ _ _ _ _ _) (by k_asm) (by k_asm) (by k_asm) (by k_asm) (by k_asm) (by first | exact rfl | assumption) (by exact News.isTup (by k_asm) (by k_mem)) (by ktr_room) (by ktr_units) ?_); intro t9 h9 tk9 F9 N9; ((first | rw [← rt_noname] | rw [← rt_pub (by assumption)] | rw [← rt_name (by assumption)] | rw [← rt_none (by assumption)] | rw [← rt_some (by assumption)])); (try dsimp only); (try k_fold)) | with_reducible (k_here; (with_reducible show wpAny _ _ (subscriptTail _ (PySem.Expr.Slice _ _ none _) (Value.ref _) (Value.ref _)) _ _ _); k_dflt (refine kmk_slice_lit (by k_asm) (by k_asm) (by kmk_list) (by kmk_part) (by kmk_part) (by assumption) ?_ (by with_unfolding_all rfl) (by kmk_pure) (by (simp only [List.size_toArray]; rw [sizeLine_eq]; omega))); intro D' h' F' N' l1; (try k_lt l1)) | walk1)
    rcases oN with _ | nN
    · dsimp only [optV] at FM
      (repeat' (first | with_reducible (k_here; (with_reducible show wpAny _ _ (call (Value.ref 84) _) _ _ _); k_dflt (refine Does.useV (d_right _ _ _ _ _ _ _ _ _) (by k_asm) (by k_asm) (by k_asm) (by k_asm) (by k_asm) (by first | exact rfl | assumption) (by exact News.isTup (by k_asm) (by k_mem)) (by ktr_room) (by ktr_units) ?_); intro t9 h9 tk9 F9 N9; ((first | rw [← rt_noname] | rw [← rt_pub (by assumption)] | rw [← rt_name (by assumption)] | rw [← rt_none (by assumption)] | rw [← rt_some (by assumption)])); (try dsimp only); (try k_fold)) | with_reducible (k_here; (with_reducible show wpAny _ _ (subscriptTail _ (PySem.Expr.Slice _ _ none _) (Value.ref _) (Value.ref _)) _ _ _); k_dflt (refine kmk_slice_lit (by k_asm) (by k_asm) (by kmk_list) (by kmk_part) (by kmk_part) (by assumption) ?_ (by with_unfolding_all rfl) (by kmk_pure) (by (simp only [List.size_toArray]; rw [sizeLine_eq]; omega))); intro D' h' F' N' l1; (try k_lt l1)) | (k_unfold; (try dsimp only)) | (k_end; wrow_close) | walk1 | (dsimp only; walk1) | (leave1; (try dsimp only)) | fail "no step"))
      all_goals ((first | (exfalso; first | exact bad2 (by assumption) | exact bad1 (by assumption) (by assumption)) | ((rename Fr _ _ _ _ => F9); (rename News _ _ _ _ => N9); refine LTurnT.next (_, _) F9 N9 (List.forall_mem_singleton.mpr (by repeat (first | exact List.Mem.head _ | apply List.Mem.tail))) (by (intro p hp; simp only [List.cons_append, List.nil_append, List.mem_cons] at hp ⊢; rcases hp with h | h | h | h <;> simp [h])) (known_map rfl rfl) ⟨_, by assumption⟩)))
    · rcases oP with _ | xP
      · rcases oY with _ | yY
        · dsimp only [optV] at FM
          (repeat' (first | with_reducible (k_here; (with_reducible show wpAny _ _ (call (Value.ref 84) _) _ _ _); k_dflt (refine Does.useV (d_right _ _ _ _ _ _ _ _ _) (by k_asm) (by k_asm) (by k_asm) (by k_asm) (by k_asm) (by first | exact rfl | assumption) (by exact News.isTup (by k_asm) (by k_mem)) (by ktr_room) (by ktr_units) ?_); intro t9 h9 tk9 F9 N9; ((first | rw [← rt_noname] | rw [← rt_pub (by assumption)] | rw [← rt_name (by assumption)] | rw [← rt_none (by assumption)] | rw [← rt_some (by assumption)])); (try dsimp only); (try k_fold)) | with_reducible (k_here; (with_reducible show wpAny _ _ (subscriptTail _ (PySem.Expr.Slice _ _ none _) (Value.ref _) (Value.ref _)) _ _ _); k_dflt (refine kmk_slice_lit (by k_asm) (by k_asm) (by kmk_list) (by kmk_part) (by kmk_part) (by assumption) ?_ (by with_unfolding_all rfl) (by kmk_pure) (by (simp only [List.size_toArray]; rw [sizeLine_eq]; omega))); intro D' h' F' N' l1; (try k_lt l1)) | (k_unfold; (try dsimp only)) | (k_end; wrow_close) | walk1 | (dsimp only; walk1) | (leave1; (try dsimp only)) | fail "no step"))
          all_goals ((first | (exfalso; first | exact bad2 (by assumption) | exact bad1 (by assumption) (by assumption)) | ((rename Fr _ _ _ _ => F9); (rename News _ _ _ _ => N9); refine LTurnT.next (_, _) F9 N9 (List.forall_mem_singleton.mpr (by repeat (first | exact List.Mem.head _ | apply List.Mem.tail))) (by (intro p hp; simp only [List.cons_append, List.nil_append, List.mem_cons] at hp ⊢; rcases hp with h | h | h | h <;> simp [h])) (known_map rfl rfl) ⟨_, by assumption⟩)))
        · dsimp only [optV] at FM
          (repeat' (first | with_reducible (k_here; (with_reducible show wpAny _ _ (call (Value.ref 84) _) _ _ _); k_dflt (refine Does.useV (d_right _ _ _ _ _ _ _ _ _) (by k_asm) (by k_asm) (by k_asm) (by k_asm) (by k_asm) (by first | exact rfl | assumption) (by exact News.isTup (by k_asm) (by k_mem)) (by ktr_room) (by ktr_units) ?_); intro t9 h9 tk9 F9 N9; ((first | rw [← rt_noname] | rw [← rt_pub (by assumption)] | rw [← rt_name (by assumption)] | rw [← rt_none (by assumption)] | rw [← rt_some (by assumption)])); (try dsimp only); (try k_fold)) | with_reducible (k_here; (with_reducible show wpAny _ _ (subscriptTail _ (PySem.Expr.Slice _ _ none _) (Value.ref _) (Value.ref _)) _ _ _); k_dflt (refine kmk_slice_lit (by k_asm) (by k_asm) (by kmk_list) (by kmk_part) (by kmk_part) (by assumption) ?_ (by with_unfolding_all rfl) (by kmk_pure) (by (simp only [List.size_toArray]; rw [sizeLine_eq]; omega))); intro D' h' F' N' l1; (try k_lt l1)) | (k_unfold; (try dsimp only)) | (k_end; wrow_close) | walk1 | (dsimp only; walk1) | (leave1; (try dsimp only)) | fail "no step"))
          all_goals ((first | (exfalso; first | exact bad2 (by assumption) | exact bad1 (by assumption) (by assumption)) | ((rename Fr _ _ _ _ => F9); (rename News _ _ _ _ => N9); refine LTurnT.next (_, _) F9 N9 (List.forall_mem_singleton.mpr (by repeat (first | exact List.Mem.head _ | apply List.Mem.tail))) (by (intro p hp; simp only [List.cons_append, List.nil_append, List.mem_cons] at hp ⊢; rcases hp with h | h | h | h <;> simp [h])) (known_map rfl rfl) ⟨_, by assumption⟩)))
      · dsimp only [optV] at FM
        (repeat' (first | with_reducible (k_here; (with_reducible show wpAny _ _ (call (Value.ref 84) _) _ _ _); k_dflt (refine Does.useV (d_right _ _ _ _ _ _ _ _ _) (by k_asm) (by k_asm) (by k_asm) (by k_asm) (by k_asm) (by first | exact rfl | assumption) (by exact News.isTup (by k_asm) (by k_mem)) (by ktr_room) (by ktr_units) ?_); intro t9 h9 tk9 F9 N9; ((first | rw [← rt_noname] | rw [← rt_pub (by assumption)] | rw [← rt_name (by assumption)] | rw [← rt_none (by assumption)] | rw [← rt_some (by assumption)])); (try dsimp only); (try k_fold)) | with_reducible (k_here; (with_reducible show wpAny _ _ (subscriptTail _ (PySem.Expr.Slice _ _ none _) (Value.ref _) (Value.ref _)) _ _ _); k_dflt (refine kmk_slice_lit (by k_asm) (by k_asm) (by kmk_list) (by kmk_part) (by kmk_part) (by assumption) ?_ (by with_unfolding_all rfl) (by kmk_pure) (by (simp only [List.size_toArray]; rw [sizeLine_eq]; omega))); intro D' h' F' N' l1; (try k_lt l1)) | (k_unfold; (try dsimp only)) | (k_end; wrow_close) | walk1 | (dsimp only; walk1) | (leave1; (try dsimp only)) | fail "no step"))
        all_goals ((first | (exfalso; first | exact bad2 (by assumption) | exact bad1 (by assumption) (by assumption)) | ((rename Fr _ _ _ _ => F9); (rename News _ _ _ _ => N9); refine LTurnT.next (_, _) F9 N9 (List.forall_mem_singleton.mpr (by repeat (first | exact List.Mem.head _ | apply List.Mem.tail))) (by (intro p hp; simp only [List.cons_append, List.nil_append, List.mem_cons] at hp ⊢; rcases hp with h | h | h | h <;> simp [h])) (known_map rfl rfl) ⟨_, by assumption⟩)))
  · rintro ⟨fI, ok⟩ hI tkI ⟨v0, hv0⟩ FI NI
    dsimp only [PyProof.Rows.envOfC] at FI NI hv0
    clear FR NR hR FC
    with_reducible ((try dsimp only); (try k_fold))
    (repeat' (first | with_reducible (k_here; (with_reducible show wpAny _ _ (call (Value.ref 84) _) _ _ _); k_dflt (refine Does.useV (d_right _ _ _ _ _ _ _ _ _) (by k_asm) (by k_asm) (by k_asm) (by k_asm) (by k_asm) (by first | exact rfl | assumption) (by exact News.isTup (by k_asm) (by k_mem)) (by ktr_room) (by ktr_units) ?_); intro t9 h9 tk9 F9 N9; ((first | rw [← rt_noname] | rw [← rt_pub (by assumption)] | rw [← rt_name (by assumption)] | rw [← rt_none (by assumption)] | rw [← rt_some (by assumption)])); (try dsimp only); (try k_fold)) | with_reducible (k_here; (with_reducible show wpAny _ _ (subscriptTail _ (PySem.Expr.Slice _ _ none _) (Value.ref _) (Value.ref _)) _ _ _); k_dflt (refine kmk_slice_lit (by k_asm) (by k_asm) (by kmk_list) (by kmk_part) (by kmk_part) (by assumption) ?_ (by with_unfolding_all rfl) (by kmk_pure) (by (simp only [List.size_toArray]; rw [sizeLine_eq]; omega))); intro D' h' F' N' l1; (try k_lt l1)) | (k_unfold; (try dsimp only)) | (k_end; wrow_close) | walk1 | (dsimp only; walk1) | (leave1; (try dsimp only)) | fail "no step")))

end
theorem tick_law : True := by first | walk1 | trivial
end Mine
theorem PySem.Challenge.cw_nt0587_01_holds : PySem.Challenge.rw_nt0587_01.Holds :=
  Mine.law_holds
