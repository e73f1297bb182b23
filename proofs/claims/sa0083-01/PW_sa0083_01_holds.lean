import PyProof.Rows.All
import Wide.All
import OpenK.AllK
import Wide.FinOn
import Lean
import PySem.Challenge.RW_sa0083_01
open PySem PySem.Spec PySem.Calls PySem.W PyProof.Rows
set_option Elab.async false
set_option maxRecDepth 100000
set_option maxHeartbeats 8000000
namespace Mine
open_top hd for PySem.Challenge.rw_sa0083_01
end Mine
namespace Mine

abbrev Led := List (Addr × Obj)

/-- no entry of tl lies where one of news does -/
def NewOff (tl news : Led) : Prop := ∀ q ∈ tl, ∀ p ∈ news, p.1 ≠ q.1
theorem NewOff.nil {news : Led} : NewOff [] news := fun _ h => nomatch h
theorem NewOff.app {tl ta all news : Led} (h : NewOff tl news) (hne : NewOff ta all) (hs : ∀ p ∈ news, p ∈ all) : NewOff (ta ++ tl) news := fun q hq p hp =>
  (List.mem_append.mp hq).elim (fun hq => hne q hq p (hs p hp)) fun hq => h q hq p hp
theorem NewOff.cons {tl all news : Led} {D : Addr} {o : Obj} (h : NewOff tl news) (hl : ∀ p ∈ all, p.1 < D) (hs : ∀ p ∈ news, p ∈ all) : NewOff ((D, o) :: tl) news := fun q hq p hp =>
  (List.mem_cons.mp hq).elim (fun e => by subst e; exact Nat.ne_of_lt (hl p (hs p hp))) fun hq => h q hq p hp

/-- what a call of one def promises: f's address, the frames it needs, its arguments, what must hold of the ledger, what comes back -/
def Fn (prog : Program) (w : World) (K : Frag) (p : Program) (loose : List Str) (mean : ExcName → Option Value) (mg mb : Str → Option Value)
    (f : Addr) (k : Nat) (vs : List Value) (Pre : Led → Prop) (Out : Led → Value → Prop) : Prop :=
  ∀ (dp un : Nat) (gd : Option (List Code)) (cn : Str) (cs : Scope) (a : Addr) (ccd : Value) (cl : List (Str × Addr)) (outer : List Env) (A₀ : Around) (base h₀ : Heap) (L : Addr) (m : Str → Option Value) (news : Led) (s : Shared)
    (Q E : Value → Shared → Prop),
    Below A₀ base outer h₀ → Fr h₀ L s.heap m → K.In h₀ → News h₀ L s.heap news → Top p loose mean mg mb h₀ → cs.kind = .function → Pre news → dp + k < recursionLimit → un + 8 * k < cLine →
    (∀ r tl h' tk', Fr h₀ L h' m → News h₀ L h' (tl ++ news) → NewOff tl news → Out tl r → Q r { s with heap := h', toks := tk' }) →
    wpAny (model prog w) (ktrTop dp un gd cn cs L a ccd cl outer) (call (.ref f) vs) Q E s

/-- a way's end in the def's body: what R of the caller wants -/
def FnEnd (g : Heap) (news : Led) (Out : Led → Value → Prop) (s : Shared) (v : Value) (s' : Shared) : Prop :=
  ∃ L' m' tl h' tk', s' = { s with heap := h', toks := tk' } ∧ Fr g L' h' m' ∧ News g L' h' (tl ++ news) ∧ NewOff tl news ∧ Out tl v

theorem fn_of {prog : Program} {w : World} {K : Frag} {p : Program} {loose : List Str} {mean : ExcName → Option Value} {mg mb : Str → Option Value} {f : Addr} {k : Nat} {vs : List Value} {Pre : Led → Prop} {Out : Led → Value → Prop}
    {name qual : Str} {params : Arguments} {body : List Stmt} {scope : Scope} {dV kV doc pm cdv ct oc : Value} {an od : Option Addr} {osl : Array (Option Value)} {binds : List (Str × Value)}
    (ho : K.lookup f = some ⟨oc, od, .func (fnOf name qual params body scope dV kV doc pm an cdv ct), osl⟩) (hcd : codeIn K cdv qual = true)
    (hbind : ∀ s, BindsTo s (fnOf name qual params body scope dV kV doc pm an cdv ct) ⟨vs, []⟩ binds) (hloc : ∀ y ∈ binds, scope.names.lookup y.1 = some .local)
    (hco : scope.isCoroutine = false) (hgen : scope.isGenerator = false) (hk : scope.kind = .function)
    (hcell : ∀ x ∈ scope.names, x.2 ≠ .cell)
    (body_ : ∀ (dp un : Nat) (gd : Option (List Code)) (cn : Str) (cs : Scope) (Lc a : Addr) (ccd : Value) (cl : List (Str × Addr)) (outer : List Env) (base g : Heap) (L' : Addr) (h₁ : Heap) (tk : Nat) (news : Led) (s : Shared),
      Below (ktrTop dp un gd cn cs Lc a ccd cl outer) base (envX cn cs Lc a ccd cl :: outer) g → Fr g L' h₁ (fun y => binds.reverse.lookup y) → News g L' h₁ news → K.In g → Top p loose mean mg mb g → cs.kind = .function → Pre news → dp + k < recursionLimit → un + 8 * k < cLine →
      wpAny (model prog w) ((ktrTop dp un gd cn cs Lc a ccd cl outer).deeper (envOf qual scope L' f cdv)) (execs body (envOf qual scope L' f cdv))
        (fun fl s' => FnEnd g news Out s (match fl with | .ret v => v | _ => .none) s') (fun _ _ => False) { s with heap := h₁, toks := tk }) :
    Fn prog w K p loose mean mg mb f k vs Pre Out := by
  intro dp un gd cn cs a ccd cl outer A₀ base h₀ L m news s Q E B F X N T hk' hpre hd hu hret
  refine wpAny_call ?_
  refine code_def (env := envX cn cs L a ccd cl) (outer := outer) B F X N T rfl rfl hk' ho hcd ?_ (hbind s) hloc ?_ hco hgen hk hcell
  · show dp < recursionLimit
    omega
  · intro g L' h₁ FG F' N' B' X' T'
    refine wpAny_mono (body_ dp un gd cn cs L a ccd cl outer base g L' h₁ _ news s B' F' N' X' T' hk' hpre hd hu) (fun fl s' hq => ?_) (fun _ _ h => h.elim)
    obtain ⟨L'', m'', tl, h', tk', rfl, F'', N'', hne, ho'⟩ := hq
    refine ⟨L'', m'', tl ++ news, F'', N'', fun F3 N3 => ?_⟩
    exact hret _ tl h' tk' F3 N3 hne ho'

theorem fn_end {g : Heap} {news : Led} {Out : Led → Value → Prop} {s : Shared} {v : Value} {L' : Addr} {m' : Str → Option Value} {h' : Heap} {tk' : Nat} (tl : Led)
    (F : Fr g L' h' m') (N : News g L' h' (tl ++ news)) (hne : NewOff tl news) (ho : Out tl v) : FnEnd g news Out s v { s with heap := h', toks := tk' } := ⟨L', m', tl, h', tk', rfl, F, N, hne, ho⟩
end Mine
namespace Mine
theorem fn_use {prog : Program} {w : World} {K : Frag} {p : Program} {loose : List Str} {mean : ExcName → Option Value} {mg mb : Str → Option Value} {f : Addr} {k : Nat} {vs : List Value} {Pre : Led → Prop} {Out : Led → Value → Prop}
    {dp un : Nat} {gd : Option (List Code)} {cn : Str} {cs : Scope} {a : Addr} {ccd : Value} {cl : List (Str × Addr)} {outer : List Env} {A₀ : Around} {base h₀ : Heap} {L : Addr} {m : Str → Option Value} {news : Led} {s : Shared} {Q E : Value → Shared → Prop}
    (C : Fn prog w K p loose mean mg mb f k vs Pre Out)
    (B : Below A₀ base outer h₀) (F : Fr h₀ L s.heap m) (X : K.In h₀) (N : News h₀ L s.heap news) (T : Top p loose mean mg mb h₀) (hk : cs.kind = .function) (hp : Pre news) (hd : dp + k < recursionLimit) (hu : un + 8 * k < cLine)
    (ret : ∀ r tl h' tk', Fr h₀ L h' m → News h₀ L h' (tl ++ news) → NewOff tl news → Out tl r → Q r { s with heap := h', toks := tk' }) :
    wpAny (model prog w) (ktrTop dp un gd cn cs L a ccd cl outer) (call (.ref f) vs) Q E s := C _ _ _ _ _ _ _ _ _ _ _ _ _ _ _ _ _ _ B F X N T hk hp hd hu ret
/-- a mark: the lines that halt are off -/
def Quiet : Prop := True
end Mine
namespace Mine

/-- a way that hands back no new object -/
theorem fn_old {g : Heap} {news all : Led} {Out : Led → Value → Prop} {s : Shared} {v : Value} {L' : Addr} {m' : Str → Option Value} {h' : Heap} {tk' : Nat}
    (F : Fr g L' h' m') (N : News g L' h' all) (hs : ∀ p ∈ news, p ∈ all) (ho : Out [] v) : FnEnd g news Out s v { s with heap := h', toks := tk' } :=
  ⟨L', m', [], h', tk', rfl, F, fun p hp => N p (hs p hp), (fun _ h => nomatch h), ho⟩
theorem fn_new {g : Heap} {news all : Led} {Out : Led → Value → Prop} {s : Shared} {v : Value} {L' : Addr} {m' : Str → Option Value} {h' : Heap} {tk' : Nat} {a : Addr} {o : Obj}
    (F : Fr g L' h' m') (N : News g L' h' all) (hm : (a, o) ∈ all) (hl : AllLt a news) (hs : ∀ p ∈ news, p ∈ all) (ho : Out [(a, o)] v) : FnEnd g news Out s v { s with heap := h', toks := tk' } :=
  ⟨L', m', [(a, o)], h', tk', rfl, F, fun p hp => (List.mem_cons.mp hp).elim (fun e => e ▸ N _ hm) fun h => N p (hs p h), fun q hq p hp => by
    rw [List.mem_singleton.mp hq]
    exact Nat.ne_of_lt (ktn_ltOf hl p hp), ho⟩

abbrev ratObj (n : Int) (t1 t2 : Tok) (k : Nat) : Obj := { cls := .type "tuple", data := .seq #[.int n t1, .int 1 t2] k }
/-- the object at a is the ratio n / 1: one of the ledger's, or the top's R0, R1 -/
def RatA (news : Led) (a : Addr) (n : Int) : Prop := (∃ t1 t2 k, (a, ratObj n t1 t2 k) ∈ news) ∨ (a = 68 ∧ n = 0) ∨ (a = 69 ∧ n = 1)
theorem RatA.mono {news news' : Led} {a : Addr} {n : Int} (R : RatA news a n) (h : ∀ p ∈ news, p ∈ news') : RatA news' a n := R.imp (fun ⟨t1, t2, k, hm⟩ => ⟨t1, t2, k, h _ hm⟩) id
theorem RatA.new {news : Led} {a : Addr} {n : Int} {t1 t2 : Tok} {k : Nat} (hm : (a, ratObj n t1 t2 k) ∈ news) : RatA news a n := .inl ⟨t1, t2, k, hm⟩

theorem r0_at (P : Params) : ∃ dd k sl t1 t2, (hd.heap_39 P).lookup 68 = some ⟨.type "tuple", dd, .seq #[.int 0 t1, .int 1 t2] k, sl⟩ := ⟨_, _, _, _, _, rfl⟩
theorem r1_at (P : Params) : ∃ dd k sl t1 t2, (hd.heap_39 P).lookup 69 = some ⟨.type "tuple", dd, .seq #[.int 1 t1, .int 1 t2] k, sl⟩ := ⟨_, _, _, _, _, rfl⟩

section
variable {prog : Program} {w : World} {A : Around} {E : Value → Shared → Prop} {s : Shared} {h₀ : Heap} {L a b : Addr} {m : Str → Option Value} {news all : Led} {P : Params} {n n' : Int}
theorem RatA.tup {h : Heap} (R : RatA news a n) (F : Fr h₀ L h m) (X : (hd.heap_39 P).In h₀) (N : News h₀ L h all) (hs : ∀ p ∈ news, p ∈ all) : ∃ t1 t2, IsTup h a #[.int n t1, .int 1 t2] := by
  rcases R with ⟨t1, t2, k, hm⟩ | ⟨rfl, rfl⟩ | ⟨rfl, rfl⟩
  · exact ⟨t1, t2, _, (N _ (hs _ hm)).1, rfl, _, rfl⟩
  · obtain ⟨dd, k, sl, t1, t2, e⟩ := r0_at P
    exact ⟨t1, t2, _, F.keep _ _ (X _ _ e), rfl, _, rfl⟩
  · obtain ⟨dd, k, sl, t1, t2, e⟩ := r1_at P
    exact ⟨t1, t2, _, F.keep _ _ (X _ _ e), rfl, _, rfl⟩

theorem rat_top {value slice : Expr} {u : Tok} {Q : Value → Shared → Prop} (R : RatA news a n) (F : Fr h₀ L s.heap m) (X : (hd.heap_39 P).In h₀) (N : News h₀ L s.heap all) (hs : ∀ p ∈ news, p ∈ all)
    (he : subscripted slice false (.ref a) (.int 0 u) = operate [.ref a, .int 0 u] (getItem (.ref a) (.int 0 u))) (h : ∀ t, Q (.int n t) s) :
    wpAny (model prog w) A (subscriptTail value slice (.ref a) (.int 0 u)) Q E s := by
  obtain ⟨t1, t2, ht⟩ := R.tup F X N hs
  exact item_tupleT (l := [.int n t1, .int 1 t2]) ht (by decide) (by decide) rfl rfl (h t1) he
theorem rat_bot {value slice : Expr} {u : Tok} {Q : Value → Shared → Prop} (R : RatA news a n) (F : Fr h₀ L s.heap m) (X : (hd.heap_39 P).In h₀) (N : News h₀ L s.heap all) (hs : ∀ p ∈ news, p ∈ all)
    (he : subscripted slice false (.ref a) (.int 1 u) = operate [.ref a, .int 1 u] (getItem (.ref a) (.int 1 u))) (h : ∀ t, Q (.int 1 t) s) :
    wpAny (model prog w) A (subscriptTail value slice (.ref a) (.int 1 u)) Q E s := by
  obtain ⟨t1, t2, ht⟩ := R.tup F X N hs
  exact item_tupleT (l := [.int n t1, .int 1 t2]) ht (by decide) (by decide) rfl rfl (h t2) he
theorem rat_ne0 {Q : Value → Shared → Prop} (R : RatA news a n) (F : Fr h₀ L s.heap m) (X : (hd.heap_39 P).In h₀) (N : News h₀ L s.heap all) (hs : ∀ p ∈ news, p ∈ all) (hu : A.units < cLine)
    (h : Q (.bool (!decide (n = 0))) s) : wpAny (model prog w) A (compareOp .NotEq (.ref a) (.ref 68)) Q E s := by
  obtain ⟨t1, t2, ht⟩ := R.tup F X N hs
  obtain ⟨u1, u2, hz⟩ := RatA.tup (news := all) (a := 68) (n := 0) (.inr (.inl ⟨rfl, rfl⟩)) F X N (fun _ h => h)
  refine cmp_ofNotEq ?_
  have key := SeqAt.RcNeAt.tuples (A := A) (s := s) (l := a) (b := 68) (e := fun j => if j = 0 then n == 0 else true) ht hz hu (fun j h1 h2 => by
    match j, h1, h2 with
    | 0, _, _ => exact SeqAt.EqAt.int_int n t1 0 u1
    | 1, _, _ => exact SeqAt.EqAt.int_int 1 t2 1 u2)
  refine key prog w E Q ?_
  have e : (!((List.range (min (#[Value.int n t1, Value.int 1 t2] : Array Value).size (#[Value.int 0 u1, Value.int 1 u2] : Array Value).size)).all (fun j => if j = 0 then n == 0 else true) && (#[Value.int n t1, Value.int 1 t2] : Array Value).size == (#[Value.int 0 u1, Value.int 1 u2] : Array Value).size)) = !decide (n = 0) := by
    by_cases hn : n = 0
    · subst hn; rfl
    · have : (n == 0) = false := by simpa using hn
      simp [hn, List.range, List.range.loop, this]
  rw [e]
  exact h
end
theorem rat_end {g : Heap} {news all : Led} {s : Shared} {L' D : Addr} {m' : Str → Option Value} {h' : Heap} {tk' k : Nat} {n x y : Int} {t1 t2 : Tok} (hx : x = n) (hy : y = 1)
    (F : Fr g L' h' m') (N : News g L' h' ((D, ({ cls := .type "tuple", data := .seq #[.int x t1, .int y t2] k } : Obj)) :: all)) (hl : ∀ p ∈ all, p.1 < D) (hs : ∀ p ∈ news, p ∈ all) :
    FnEnd g news (fun led r => ∃ a, r = .ref a ∧ RatA led a n) s (.ref D) { s with heap := h', toks := tk' } := by
  subst hx; subst hy
  exact fn_new F N (.head _) (allLt_of fun p hp => hl p (hs p hp)) (fun p hp => .tail _ (hs p hp)) ⟨D, rfl, .new (.head _)⟩
theorem rat_back {g : Heap} {news all : Led} {s : Shared} {L' a : Addr} {m' : Str → Option Value} {h' : Heap} {tk' : Nat} {n x : Int} (tl : Led) (hx : x = n) (R : RatA tl a x)
    (F : Fr g L' h' m') (N : News g L' h' all) (e : all = tl ++ news) (hne : NewOff tl news) :
    FnEnd g news (fun led r => ∃ a, r = .ref a ∧ RatA led a n) s (.ref a) { s with heap := h', toks := tk' } := by
  subst hx; subst e
  exact fn_end tl F N hne ⟨a, rfl, R⟩
end Mine
namespace Mine
section
variable {prog : Program} {w : World} {A : Around} {E : Value → Shared → Prop} {s : Shared} {env : Env} {h₀ : Heap} {x : Str} {body : List Stmt} {Q : Flow → Shared → Prop}

/-- a halt: no line takes it -/
def Halt (P : Prop) : Prop := P
theorem Halt.go {P : Prop} (h : P) : Halt P := h
theorem for_halt {m : Str → Option Value} {px pos : Pos} {iter : Expr} (F : Fr h₀ env.locals s.heap m) (hx : env.kindOf x = some .local)
    (hp : (env.scope.kind == .class || (env.scope.kind == .module && env.locals != env.globals)) = false)
    (h : wpAny (model prog w) A (eval iter env) (fun xv s₁ => Halt (wpAny (model prog w) A (pyIter xv) (fun it s₂ => LoopAtV prog w A h₀ env x body Q E it s₂) E s₁)) E s)
    (hs : ∀ x, foldedSetIterable iter env x = pure x := by intro _; rfl)
    (hE : PassesOwn (model prog w) A env E := by passes_own) :
    wpAny (model prog w) A (exec (.For (.Name x px) iter body [] pos) env) Q E s := For_invVF F hx hp h hs hE

/-- what stands between the turns of a loop over a range: one name y besides the temps, told by R over the ledger -/
def KeepR (R : Led → Value → Prop) (x y : Str) (stored : List Str) (m₀ : Str → Option Value) (news : Led) (m' : Str → Option Value) (nx : Led) : Prop :=
  ∃ tl v, nx = tl ++ news ∧ NewOff tl news ∧ m' y = some v ∧ R tl v ∧ ∀ z, z ≠ x → z ≠ y → stored.contains z = false → m' z = m₀ z

theorem keep_map {m₁ m₀ : Str → Option Value} {x y : Str} {stored : List Str} {v : Value} {k : Value} (hv : m₁ y = some v) (hm : ∀ z, z ≠ x → z ≠ y → stored.contains z = false → m₁ z = m₀ z) :
    (fun z => if z = x then some k else m₁ z) = fun z => if z = x then some k else if z = y then some v else if stored.contains z then m₁ z else m₀ z := by
  funext z
  by_cases h1 : z = x
  · simp [h1]
  · simp only [if_neg h1]
    by_cases h2 : z = y
    · subst h2; simp [hv]
    · simp only [if_neg h2]
      cases h3 : stored.contains z with
      | true => simp
      | false => simp only [Bool.false_eq_true, if_false]; exact hm z h1 h2 h3
theorem keep_map' {m₁ m₀ : Str → Option Value} {x y : Str} {stored : List Str} {v : Value} (hv : m₁ y = some v) (hm : ∀ z, z ≠ x → z ≠ y → stored.contains z = false → m₁ z = m₀ z) :
    m₁ = fun z => if z = x then m₁ z else if z = y then some v else if stored.contains z then m₁ z else m₀ z := by
  funext z
  by_cases h1 : z = x
  · simp [h1]
  · simp only [if_neg h1]
    by_cases h2 : z = y
    · subst h2; simp [hv]
    · simp only [if_neg h2]
      cases h3 : stored.contains z with
      | true => simp
      | false => simp only [Bool.false_eq_true, if_false]; exact hm z h1 h2 h3

theorem range_loop {r : Addr} {a₀ b₀ : Int} {t₀ u₀ w₀ : Tok} {n : Nat} {m₀ : Str → Option Value} {news : Led} {y : Str} {v₀ : Value} (stored : List Str) (R : Nat → Led → Value → Prop)
    (hh : A.handled = none) (hr : IsRange s.heap r a₀ b₀ 1 t₀ u₀ w₀) (hsmall : Builtin.Range.small a₀ b₀ 1 = true) (hn : Builtin.Range.rangeSize a₀ b₀ 1 = (n : Int)) (F : Fr h₀ env.locals s.heap m₀) (N : News h₀ env.locals s.heap news)
    (hy : m₀ y = some v₀) (h0 : R 0 [] v₀)
    (turn : ∀ i t v (u : Str → Option Value) tl h tk own, i < n → R i tl v → TbOff own (tl ++ news) → NewOff tl news →
      Fr h₀ env.locals h (fun z => if z = x then some (.int (a₀ + (i : Int)) t) else if z = y then some v else if stored.contains z then u z else m₀ z) → News h₀ env.locals h ((tl ++ news) ++ own) →
      wpAny (model prog w) A (execs body env) (TbPost h₀ env.locals (KeepR (R (i + 1)) x y stored m₀ news) own { s with heap := h, toks := tk } Q) E { s with heap := h, toks := tk })
    (done : ∀ (u : Str → Option Value) v tl h tk, R n tl v → NewOff tl news → Fr h₀ env.locals h (fun z => if z = x then u z else if z = y then some v else if stored.contains z then u z else m₀ z) → News h₀ env.locals h (tl ++ news) → Q .next { s with heap := h, toks := tk }) :
    wpAny (model prog w) A (pyIter (.ref r)) (fun it s₂ => LoopAtV prog w A h₀ env x body Q E it s₂) E s := by
  refine tbr_invG (fun i m nx => KeepR (R i) x y stored m₀ news m nx) hh hr hsmall hn F N ⟨[], v₀, rfl, .nil, hy, h0, fun _ _ _ _ => rfl⟩ ?_ ?_
  · rintro i k t m₁ nx h tk own hk hoff ⟨tl, v, rfl, hno, hv, hR, hm⟩ F₁ N₁
    have hi : i < n := by
      have := (List.getElem?_eq_some_iff.mp hk).1
      rwa [rangeKs_length] at this
    have ek : k = a₀ + (i : Int) := by
      have : (rangeKs a₀ n)[i]? = some (a₀ + (i : Int)) := by simp [rangeKs, hi]
      rw [this] at hk; exact (Option.some.inj hk).symm
    subst ek
    rw [keep_map hv hm] at F₁
    exact turn i t v m₁ tl h tk own hi hR hoff hno F₁ N₁
  · rintro m₁ nx h tk ⟨tl, v, rfl, hno, hv, hR, hm⟩ F₁ N₁
    rw [keep_map' hv hm] at F₁
    exact done m₁ v tl h tk hR hno F₁ N₁

theorem keep_end {R : Led → Value → Prop} {x y : Str} {stored : List Str} {m₀ m' : Str → Option Value} {L : Addr} {news all own : Led} {s₁ : Shared} {h' : Heap} {tk : Nat} {v : Value}
    (F : Fr h₀ L h' m') (N : News h₀ L h' all) (tl' : Led) (hs : ∀ p ∈ tl' ++ news, p ∈ all) (ho : ∀ p ∈ own, p ∈ all) (off : TbOff own (tl' ++ news)) (hno : NewOff tl' news) (hv : m' y = some v) (hR : R tl' v)
    (hm : ∀ z, z ≠ x → z ≠ y → stored.contains z = false → m' z = m₀ z) : TbEnd h₀ L (KeepR R x y stored m₀ news) own s₁ { s₁ with heap := h', toks := tk } :=
  ⟨h', tk, m', all, tl' ++ news, rfl, F, N, hs, ho, off, tl', v, rfl, hno, hv, hR, hm⟩
theorem off_app {own nx tl all : Led} (h : TbOff own nx) (hne : NewOff tl all) (hs : ∀ p ∈ own, p ∈ all) : TbOff own (tl ++ nx) := fun p hp q hq =>
  (List.mem_append.mp hq).elim (fun hq => hne q hq p (hs p hp)) fun hq => h p hp q hq
end

abbrev lstObj (vs : List Value) (k : Nat) : Obj := { cls := .type "list", data := .seq vs.toArray k }
inductive RatsA (news : Led) : List Value → List Int → Prop
  | nil : RatsA news [] []
  | cons {a : Addr} {n : Int} {vs : List Value} {ns : List Int} : RatA news a n → RatsA news vs ns → RatsA news (.ref a :: vs) (n :: ns)
theorem RatsA.mono {news news' : Led} (h : ∀ p ∈ news, p ∈ news') : ∀ {vs : List Value} {ns : List Int}, RatsA news vs ns → RatsA news' vs ns
  | _, _, .nil => .nil
  | _, _, .cons r t => .cons (r.mono h) (t.mono h)
theorem RatsA.length {news : Led} : ∀ {vs : List Value} {ns : List Int}, RatsA news vs ns → vs.length = ns.length
  | _, _, .nil => rfl
  | _, _, .cons _ t => by rw [List.length_cons, List.length_cons, t.length]
theorem RatsA.get {news : Led} : ∀ {vs : List Value} {ns : List Int}, RatsA news vs ns → ∀ i, i < ns.length → ∃ a, vs[i]? = some (.ref a) ∧ RatA news a (ns.getD i 0)
  | _, _, .nil, i, h => absurd h (Nat.not_lt_zero _)
  | _, _, .cons (a := a) r t, 0, _ => ⟨a, rfl, r⟩
  | _, _, .cons r t, i + 1, h => by
    obtain ⟨b, e, hb⟩ := t.get i (Nat.lt_of_succ_lt_succ h)
    exact ⟨b, e, hb⟩
theorem RatsA.snoc {news : Led} {a : Addr} {n : Int} : ∀ {vs : List Value} {ns : List Int}, RatsA news vs ns → RatA news a n → RatsA news (vs ++ [.ref a]) (ns ++ [n])
  | _, _, .nil, r => .cons r .nil
  | _, _, .cons r t, r' => .cons r (t.snoc r')
/-- the list at l holds ratios: ns -/
def SerA (news : Led) (l : Addr) (ns : List Int) : Prop := ∃ vs k, (l, lstObj vs k) ∈ news ∧ RatsA news vs ns
theorem SerA.mono {news news' : Led} {l : Addr} {ns : List Int} (S : SerA news l ns) (h : ∀ p ∈ news, p ∈ news') : SerA news' l ns := let ⟨vs, k, hm, r⟩ := S; ⟨vs, k, h _ hm, r.mono h⟩

section
variable {prog : Program} {w : World} {A : Around} {E : Value → Shared → Prop} {s : Shared} {h₀ : Heap} {L l : Addr} {m : Str → Option Value} {news all : Led} {ns : List Int}
theorem ser_item {value slice : Expr} {j : Int} {i : Nat} {u : Tok} {Q : Value → Shared → Prop} (S : SerA news l ns) (N : News h₀ L s.heap all) (hs : ∀ p ∈ news, p ∈ all)
    (he : subscripted slice false (.ref l) (.int j u) = operate [.ref l, .int j u] (getItem (.ref l) (.int j u))) (hg : ∀ r, letTemporaryGo value (.ref l) r = pure ()) (hj : j = (i : Int)) (hi : i < ns.length) (hf : j < 2 ^ 63)
    (h : ∀ a, RatA news a (ns.getD i 0) → Q (.ref a) s) :
    wpAny (model prog w) A (subscriptTail value slice (.ref l) (.int j u)) Q E s := by
  obtain ⟨vs, k, hm, hr⟩ := S
  obtain ⟨a, hx, ha⟩ := hr.get i hi
  exact item_listL (l := vs) ⟨_, (N _ (hs _ hm)).1, rfl, _, rfl⟩ (by omega) hf (by rw [show j.toNat = i by omega]; exact hx) (h a ha) he hg
theorem ser_len {Q : Value → Shared → Prop} (S : SerA news l ns) (N : News h₀ L s.heap all) (hs : ∀ p ∈ news, p ∈ all) (hf : ns.length < 2 ^ 62)
    (h : Q (.int ns.length (s.toks + 1)) { s with toks := s.toks + 1 + 1 }) : wpAny (model prog w) A (call (.builtin "len") [.ref l]) Q E s := by
  obtain ⟨vs, k, hm, hr⟩ := S
  have e : (vs.toArray.size : Int) = (ns.length : Int) := by rw [List.size_toArray, hr.length]
  refine len_list (items := vs.toArray) ⟨_, (N _ (hs _ hm)).1, rfl, _, rfl⟩ (by rw [e]; omega) ?_
  rw [e]; exact h
end

theorem idx_sub {i j : Nat} (h : i ≤ j) : (j : Int) - (0 + (i : Int)) = ((j - i : Nat) : Int) := by omega

/-- one place of a product: the first i of its summands -/
def cv (as bs : List Int) (j : Nat) : Nat → Int
  | 0 => 0
  | i + 1 => if as.getD i 0 ≠ 0 ∧ bs.getD (j - i) 0 ≠ 0 then cv as bs j i + as.getD i 0 * bs.getD (j - i) 0 else cv as bs j i
def Small (as : List Int) : Prop := as.length ≤ 64 ∧ ∀ i, -(2 ^ 20) < as.getD i 0 ∧ as.getD i 0 < 2 ^ 20
theorem mul_small {x y : Int} (h1 : -(2 ^ 20) < x) (h2 : x < 2 ^ 20) (h3 : -(2 ^ 20) < y) (h4 : y < 2 ^ 20) : -(2 ^ 40) < x * y ∧ x * y < 2 ^ 40 := by
  have hx : x.natAbs < 2 ^ 20 := by omega
  have hy : y.natAbs < 2 ^ 20 := by omega
  have h := Nat.mul_lt_mul'' hx hy
  rw [← Int.natAbs_mul] at h
  have e : (2 : Nat) ^ 20 * 2 ^ 20 = 2 ^ 40 := by decide
  rw [e] at h
  omega
theorem cv_small {as bs : List Int} (ha : Small as) (hb : Small bs) (j : Nat) : ∀ i : Nat, -((i : Int) * 2 ^ 40) ≤ cv as bs j i ∧ cv as bs j i ≤ (i : Int) * 2 ^ 40
  | 0 => by simp [cv]
  | i + 1 => by
    have ih := cv_small ha hb j i
    have hm := mul_small (ha.2 i).1 (ha.2 i).2 (hb.2 (j - i)).1 (hb.2 (j - i)).2
    unfold cv
    split <;> omega
end Mine
namespace Mine
theorem fn_ofC {prog : Program} {w : World} {K : Frag} {p : Program} {loose : List Str} {mean : ExcName → Option Value} {mg mb : Str → Option Value} {f : Addr} {k : Nat} {vs : List Value} {Pre : Led → Prop} {Out : Led → Value → Prop}
    {name qual : Str} {params : Arguments} {body : List Stmt} {scope : Scope} {dV kV doc pm cdv ct oc : Value} {an od : Option Addr} {osl : Array (Option Value)} {binds : List (Str × Value)}
    (ho : K.lookup f = some ⟨oc, od, .func (fnOf name qual params body scope dV kV doc pm an cdv ct), osl⟩) (hcd : codeIn K cdv qual = true)
    (hbind : ∀ s, BindsTo s (fnOf name qual params body scope dV kV doc pm an cdv ct) ⟨vs, []⟩ binds) (hkind : (binds.all fun y => scope.names.lookup y.1 == some .local || scope.names.lookup y.1 == some .cell) = true)
    (hnd : ((cellsFrom 0 scope.names []).map (·.1)).Nodup)
    (hco : scope.isCoroutine = false) (hgen : scope.isGenerator = false) (hk : scope.kind = .function)
    (body_ : ∀ (dp un : Nat) (gd : Option (List Code)) (cn : Str) (cs : Scope) (Lc a : Addr) (ccd : Value) (cl : List (Str × Addr)) (outer : List Env) (base g : Heap) (L' : Addr) (h₁ : Heap) (tk : Nat) (cells news : Led) (s : Shared),
      Below (ktrTop dp un gd cn cs Lc a ccd cl outer) base (envX cn cs Lc a ccd cl :: outer) g → Fr g L' h₁ (bindL (envOfC qual scope L' f cdv).kindOf binds fun _ => none) → News g L' h₁ (cells ++ news) →
      CellsAre (bindC (envOfC qual scope L' f cdv).kindOf binds fun _ => none) (cellsFrom (L' + 1) scope.names []) cells → (∀ p ∈ news, p.1 < L') → K.In g → Top p loose mean mg mb g → cs.kind = .function → Pre news → dp + k < recursionLimit → un + 8 * k < cLine →
      wpAny (model prog w) ((ktrTop dp un gd cn cs Lc a ccd cl outer).deeper (envOfC qual scope L' f cdv)) (execs body (envOfC qual scope L' f cdv))
        (fun fl s' => FnEnd g news Out s (match fl with | .ret v => v | _ => .none) s') (fun _ _ => False) { s with heap := h₁, toks := tk }) :
    Fn prog w K p loose mean mg mb f k vs Pre Out := by
  intro dp un gd cn cs a ccd cl outer A₀ base h₀ L m news s Q E B F X N T hk' hpre hd hu hret
  refine wpAny_call ?_
  refine code_defC (env := envX cn cs L a ccd cl) (outer := outer) B F X N T rfl rfl hk' ho hcd ?_ (hbind s) hkind hnd ?_ hco hgen hk
  · show dp < recursionLimit
    omega
  · intro g L' h₁ tk cells FG F' N' Y' B' X' T' hl
    refine wpAny_mono (body_ dp un gd cn cs L a ccd cl outer base g L' h₁ _ cells news s B' F' N' Y' hl X' T' hk' hpre hd hu) (fun fl s' hq => ?_) (fun _ _ h => h.elim)
    obtain ⟨L'', m'', tl, h', tk', rfl, F'', N'', hne, ho'⟩ := hq
    refine ⟨L'', m'', tl ++ news, F'', N'', fun F3 N3 => ?_⟩
    exact hret _ tl h' tk' F3 N3 hne ho'

section
variable {prog : Program} {w : World} {A : Around} {E : Value → Shared → Prop} {s : Shared} {h₀ : Heap} {L : Addr} {m : Str → Option Value} {env : Env}
theorem lc_halt {elt iter : Expr} {x : Str} {px : Pos} {scope : Scope} {cl : List (Str × Addr)} {pos : Pos} {Q : Value → Shared → Prop} (F₀ : Fr h₀ L s.heap m)
    (hclos : closureFor scope env = pure cl) (hcell : ∀ y ∈ scope.names, y.2 ≠ .cell) (hkind : scope.kind = .function)
    (hnames : ∀ y ∈ scope.names, y.2 = .local → scope.names.lookup y.1 = some .local) (hx : scope.names.lookup x = some .local)
    (h : wpAny (model prog w) A (eval iter env) (fun xv s₁ => Halt (LCg.CompSrc prog w A h₀ L m env elt x scope cl (fun s₂ => LCg.FinE h₀ L m s₂ Q) xv s₁)) E s)
    (hs : ∀ x, foldedSetIterable iter env x = pure x := by intro _; rfl) :
    wpAny (model prog w) A (eval (.ListComp elt [⟨.Name x px, iter, [], 0⟩] scope pos) env) Q E s := LCg.ListComp_U F₀ hclos hcell hkind hnames hx h hs
theorem la_halt {elt iter : Expr} {x y : Str} {px py : Pos} {scope : Scope} {cl : List (Str × Addr)} {pos spos : Pos} {Q : Flow → Shared → Prop} (F₀ : Fr h₀ L s.heap m) (hLe : env.locals = L)
    (hsw : swapsWith (.ListComp elt [⟨.Name x px, iter, [], 0⟩] scope pos) (some (.Name y py)) spos.line env = pure true)
    (hclos : closureFor scope env = pure cl) (hcell : ∀ z ∈ scope.names, z.2 ≠ .cell) (hkind : scope.kind = .function)
    (hnames : ∀ z ∈ scope.names, z.2 = .local → scope.names.lookup z.1 = some .local) (hx : scope.names.lookup x = some .local)
    (hy : env.kindOf y = some .local) (hp : (env.scope.kind == .class || (env.scope.kind == .module && env.locals != env.globals)) = false)
    (h : wpAny (model prog w) A (eval iter env) (fun xv s₁ => Halt (LCg.CompSrc prog w A h₀ L m env elt x scope cl (fun s₂ => LCg.FinA h₀ L m s₂ y Q) xv s₁)) E s)
    (hs : ∀ x, foldedSetIterable iter env x = pure x := by intro _; rfl) :
    wpAny (model prog w) A (exec (.Assign [.Name y py] (.ListComp elt [⟨.Name x px, iter, [], 0⟩] scope pos) spos) env) Q E s := LCg.Assign_ListComp_U F₀ hLe hsw hclos hcell hkind hnames hx hy hp h hs

/-- a turn's end: one more item y, and the new objects tl' -/
def TurnEnd (h₀ : Heap) (L : Addr) (m : Str → Option Value) (s₁ : Shared) (I : Addr) (oI : Obj) (C : Addr) (oC : Obj) (D : Addr) (oD : Obj) (S : Led → Prop) (news : Led) (R : Value → Led → Prop) (y : Value) (s₂ : Shared) : Prop :=
  ∃ h' tk tl, s₂ = { s₁ with heap := h', toks := tk } ∧ Fr h₀ L h' m ∧ News h₀ L h' ((I, oI) :: (C, oC) :: (D, oD) :: (tl ++ news)) ∧ LCg.Off3 I C D (tl ++ news) ∧ NewOff tl news ∧ S (tl ++ news) ∧ R y tl
theorem turn_end {m' : Str → Option Value} {s₁ : Shared} {I C D : Addr} {oI oC oD : Obj} {S : Led → Prop} {news all : Led} {R : Value → Led → Prop} {y : Value} {h' : Heap} {tk : Nat} (tl : Led)
    (F : Fr h₀ L h' m') (N : News h₀ L h' all) (hs : ∀ p ∈ (I, oI) :: (C, oC) :: (D, oD) :: (tl ++ news), p ∈ all) (off : LCg.Off3 I C D (tl ++ news)) (hno : NewOff tl news) (hS : S (tl ++ news)) (hR : R y tl) :
    TurnEnd h₀ L m' s₁ I oI C oC D oD S news R y { s₁ with heap := h', toks := tk } := ⟨h', tk, tl, rfl, F, fun p hp => N p (hs p hp), off, hno, hS, hR⟩
theorem off3_app {I C D : Addr} {oI oC oD : Obj} {ta nx all : Led} (h : LCg.Off3 I C D nx) (hne : NewOff ta all) (hI : (I, oI) ∈ all) (hC : (C, oC) ∈ all) (hD : (D, oD) ∈ all) : LCg.Off3 I C D (ta ++ nx) :=
  LCg.Off3.of fun p hp => (List.mem_append.mp hp).elim (fun hq => ⟨Ne.symm (hne p hq _ hI), Ne.symm (hne p hq _ hC), Ne.symm (hne p hq _ hD)⟩) (h.mem p)

theorem comp_rest {elt : Expr} {x : Str} {scope : Scope} {cl : List (Str × Addr)} {S : Led → Prop} {P : Nat → Value → Prop} {Fin : List Value → Led → Prop} {n : Nat} {news : Led} (R : Nat → List Value → Led → Prop)
    (h0 : R 0 [] [])
    (turn : ∀ i v ys tl I oI C oC D m₂ h tk (E' : Value → Shared → Prop), i < n → P i v → R i ys tl → NewOff tl news → LCg.NsObj oC m₂ → m₂ x = some v → Fr h₀ L h m → News h₀ L h ((I, oI) :: (C, oC) :: (D, LCg.lst ys) :: (tl ++ news)) → LCg.Off3 I C D (tl ++ news) → ((@Ne Nat I C) ∧ (@Ne Nat I D) ∧ (@Ne Nat C D)) →
      wpAny (model prog w) A (eval elt (compEnvC scope cl C env)) (TurnEnd h₀ L m { s with heap := h, toks := tk } I oI C oC D (LCg.lst ys) S news (fun y tl' => R (i + 1) (ys ++ [y]) tl')) E' { s with heap := h, toks := tk })
    (fin : ∀ ys tl, R n ys tl → NewOff tl news → Fin ys (tl ++ news)) : LCg.CompRest prog w A h₀ L m env elt x scope cl s S P Fin n 0 [] news := by
  have key : ∀ (j i : Nat) (ys : List Value) (tl : Led), i + j = n → R i ys tl → NewOff tl news → LCg.CompRest prog w A h₀ L m env elt x scope cl s S P Fin j i ys (tl ++ news) := by
    intro j
    induction j with
    | zero =>
      intro i ys tl hi hR hno
      have e : i = n := by omega
      subst e
      exact LCg.CompRest.zero (fin ys tl hR hno)
    | succ j ih =>
      intro i ys tl hi hR hno
      refine LCg.CompRest.succ ?_
      intro v I oI C oC D m₂ h tk E' hv hC hx F N off ne
      refine wpAny_mono (turn i v ys tl I oI C oC D m₂ h tk E' (by omega) hv hR hno hC hx F N off ne) (fun y s₂ hq => ?_) fun _ _ e => e
      obtain ⟨h', tk', tl', e, F', N', off', hno', hS, hR'⟩ := hq
      exact ⟨h', tk', tl' ++ news, e, F', N', off', hS, ih (i + 1) _ tl' (by omega) hR' hno'⟩
  exact key n 0 [] [] (by omega) h0 .nil
end

theorem off1_mem {D : Addr} : ∀ {l : Led}, LCg.Off1 D l → ∀ p ∈ l, p.1 ≠ D
  | [], _, _, h => nomatch h
  | _ :: _, x, p, h => (List.mem_cons.mp h).elim (fun e => e ▸ x.1) fun h => off1_mem x.2 p h
/-- what a comprehension of ratios leaves behind: the new list and its items -/
theorem ser_end {g : Heap} {news all : Led} {s : Shared} {L' D : Addr} {m' : Str → Option Value} {h' : Heap} {tk' : Nat} {ns : List Int} {ys : List Value} {tl : Led} (hR : RatsA tl ys ns)
    (F : Fr g L' h' m') (N : News g L' h' ((D, LCg.lst ys) :: (tl ++ all))) (hno : NewOff tl all) (o1 : LCg.Off1 D (tl ++ all)) (hs : ∀ p ∈ news, p ∈ all) :
    FnEnd g news (fun led r => ∃ l, r = .ref l ∧ SerA led l ns) s (.ref D) { s with heap := h', toks := tk' } := by
  refine fn_end ((D, LCg.lst ys) :: tl) F (fun p hp => N p ?_) (fun q hq p hp => ?_) ⟨D, rfl, ys, _, .head _, hR.mono fun _ h => .tail _ h⟩
  · rcases List.mem_cons.mp hp with rfl | hp
    · exact .head _
    · refine .tail _ ?_
      rcases List.mem_append.mp hp with hp | hp
      · exact List.mem_append.mpr (.inl hp)
      · exact List.mem_append.mpr (.inr (hs p hp))
  · rcases List.mem_cons.mp hq with rfl | hq
    · exact off1_mem o1 p (List.mem_append.mpr (.inr (hs p hp)))
    · exact hno q hq p (hs p hp)
theorem ser_back {g : Heap} {news all all' : Led} {s : Shared} {L' a : Addr} {m' : Str → Option Value} {h' : Heap} {tk' : Nat} {ns : List Int} {tl : Led} (S : SerA tl a ns)
    (F : Fr g L' h' m') (N : News g L' h' all) (hno : NewOff tl all') (hs : ∀ p ∈ tl ++ news, p ∈ all) (hs' : ∀ p ∈ news, p ∈ all') :
    FnEnd g news (fun led r => ∃ l, r = .ref l ∧ SerA led l ns) s (.ref a) { s with heap := h', toks := tk' } :=
  fn_end tl F (fun p hp => N p (hs p hp)) (fun q hq p hp => hno q hq p (hs' p hp)) ⟨a, rfl, S⟩
theorem mem_app_r {α : Type} {a : α} {xs ys : List α} (h : List.Mem a ys) : List.Mem a (xs ++ ys) := List.mem_append.mpr (Or.inr h)
theorem mem_app_l {α : Type} {a : α} {xs ys : List α} (h : List.Mem a xs) : List.Mem a (xs ++ ys) := List.mem_append.mpr (Or.inl h)
theorem halt_cell {M : Model} {A : Around} {E : Value → Shared → Prop} {s : Shared} {C : Addr} {scope : Scope} {cl : List (Str × Addr)} {env : Env} {y : Str} {pos : Pos} {Q : Value → Shared → Prop}
    (_hx : (compEnvC scope cl C env).kindOf y = some .cell) (h : Halt (wpAny M A (eval (.Name y pos) (compEnvC scope cl C env)) Q E s)) : wpAny M A (eval (.Name y pos) (compEnvC scope cl C env)) Q E s := h

/-- the product of two series -/
def sm (as bs : List Int) : List Int := (List.range as.length).map fun j => cv as bs j (j + 1)
theorem sm_length (as bs : List Int) : (sm as bs).length = as.length := by simp [sm]
end Mine
namespace Mine
section
variable {prog : Program} {w : World} {A : Around} {E : Value → Shared → Prop} {s : Shared} {env : Env} {test : PySem.Expr} {body orelse : List Stmt} {Q : Flow → Shared → Prop}
theorem whl_halt (k : Nat) {pos : Pos} (h : Halt (WhlRest prog w A E env test body orelse Q k s)) : wpAny (model prog w) A (exec (.While test body orelse pos) env) Q E s := whl_start k h
def WPost (J : Shared → Prop) (Q : Flow → Shared → Prop) (f : Flow) (s : Shared) : Prop :=
  match f with
  | .next => J s
  | .cont => J s
  | .brk => Q .next s
  | .ret v => Q (.ret v) s
theorem while_ind (I : Nat → Shared → Prop) (hE : PassesOwn (model prog w) A env E)
    (turn : ∀ k s, I (k + 1) s → wpAny (model prog w) A (isTrue test env (eval test env)) (fun b s₂ => WhlIf b (wpAny (model prog w) A (execs body env) (WPost (I k) Q) E s₂) (wpAny (model prog w) A (execs orelse env) Q E s₂)) E s)
    (zero : ∀ s, ¬ I 0 s) : ∀ k s, I k s → WhlRest prog w A E env test body orelse Q k s
  | 0, s, h => absurd h (zero s)
  | k + 1, s, h => by
    refine whl_turn hE (wpAny_mono (turn k s h) (fun b s₂ h₂ => ?_) fun _ _ e => e)
    unfold WhlIf at h₂ ⊢
    split
    · rename_i hb
      rw [if_pos hb] at h₂
      refine wpAny_mono h₂ (fun f s₃ h₃ => ?_) fun _ _ e => e
      cases f with
      | next => exact while_ind I hE turn zero k s₃ h₃
      | cont => exact while_ind I hE turn zero k s₃ h₃
      | brk => exact h₃
      | ret v => exact h₃
    · rename_i hb
      rw [if_neg hb] at h₂
      exact h₂
end
theorem frame_one {m : Str → Option Value} {x : Str} {v : Value} (hx : m x = some v) : m = fun z => if z = x then some v else m z := by
  funext z
  by_cases h : z = x
  · subst h; simp [hx]
  · simp [h]
theorem frame_two {m : Str → Option Value} {x y : Str} {v u : Value} (hx : m x = some v) (hy : m y = some u) : m = fun z => if z = x then some v else if z = y then some u else m z := by
  funext z
  by_cases h : z = x
  · subst h; simp [hx]
  · by_cases h2 : z = y
    · subst h2; simp [h, hy]
    · simp [h, h2]
theorem frame_three {m : Str → Option Value} {x y z' : Str} {v u t : Value} (hx : m x = some v) (hy : m y = some u) (hz : m z' = some t) : m = fun z => if z = x then some v else if z = y then some u else if z = z' then some t else m z := by
  funext z
  by_cases h : z = x
  · subst h; simp [hx]
  · by_cases h2 : z = y
    · subst h2; simp [h, hy]
    · by_cases h3 : z = z'
      · subst h3; simp [h, h2, hz]
      · simp [h, h2, h3]
theorem frame_four {m : Str → Option Value} {x y z' u' : Str} {v u t r : Value} (hx : m x = some v) (hy : m y = some u) (hz : m z' = some t) (hu : m u' = some r) : m = fun z => if z = x then some v else if z = y then some u else if z = z' then some t else if z = u' then some r else m z := by
  funext z
  by_cases h : z = x
  · subst h; simp [hx]
  · by_cases h2 : z = y
    · subst h2; simp [h, hy]
    · by_cases h3 : z = z'
      · subst h3; simp [h, h2, hz]
      · by_cases h4 : z = u'
        · subst h4; simp [h, h2, h3, hu]
        · simp [h, h2, h3, h4]
/-- the least divisor from f on -/
def ldv : Nat → Int → Int → Int
  | 0, n, _ => n
  | k + 1, n, f => if f * f ≤ n then (if n.fmod f = 0 then f else ldv k n (f + if f = 2 then 1 else 2)) else n
theorem drop_app {h₀ h : Heap} {L : Addr} {tl news : Led} (N : News h₀ L h (tl ++ news)) : News h₀ L h news := fun p hp => N p (List.mem_append.mpr (.inr hp))
theorem ldv_facts {n : Int} (h1 : 2 ≤ n) (h2 : n ≤ 40) : ∀ k f, 2 ≤ f → 2 ≤ ldv k n f ∧ ldv k n f ≤ 40 ∧ n.fmod (ldv k n f) = 0
  | 0, f, hf => ⟨h1, h2, Int.fmod_self⟩
  | k + 1, f, hf => by
    unfold ldv
    split
    · split
      · rename_i hc hd
        refine ⟨hf, ?_, hd⟩
        have := Int.mul_le_mul hf hf (by omega) (by omega)
        have h7 : f ≤ 6 := by
          by_cases h7 : 7 ≤ f
          · have := Int.mul_le_mul h7 h7 (by omega) (by omega)
            omega
          · omega
        omega
      · exact ldv_facts h1 h2 k _ (by split <;> omega)
    · exact ⟨h1, h2, Int.fmod_self⟩
/-- n without the divisor q, and how often it went -/
def dv : Nat → Int → Int → Int → Int × Int
  | 0, n, _, c => (n, c)
  | k + 1, n, q, c => if n.fmod q = 0 then dv k (n.fdiv q) q (c + 1) else (n, c)
/-- the prime factors from p on -/
def pf : Nat → Int → Int → List (Int × Int)
  | 0, _, _ => []
  | k + 1, n, p => if n > 1 then (ldv 12 n p, (dv 6 n (ldv 12 n p) 0).2) :: pf k (dv 6 n (ldv 12 n p) 0).1 (if ldv 12 n p = 2 then 3 else ldv 12 n p + 2) else []
theorem half {n q : Int} (hn : 1 ≤ n) (hq : 2 ≤ q) (hd : n.fmod q = 0) : 1 ≤ n.fdiv q ∧ 2 * n.fdiv q ≤ n := by
  have e := Int.mul_fdiv_add_fmod n q
  rw [hd] at e
  have h0 : 0 ≤ n.fdiv q := by rw [Int.fdiv_eq_ediv_of_nonneg _ (by omega)]; exact Int.ediv_nonneg (by omega) (by omega)
  have h1 : 1 ≤ n.fdiv q := by
    by_cases h : n.fdiv q = 0
    · rw [h] at e; omega
    · omega
  refine ⟨h1, ?_⟩
  have := Int.mul_le_mul_of_nonneg_right hq h0
  omega
theorem dv_facts {q : Int} (hq : 2 ≤ q) : ∀ k n c, 1 ≤ n → 1 ≤ (dv k n q c).1 ∧ (dv k n q c).1 ≤ n
  | 0, n, c, hn => ⟨hn, Int.le_refl _⟩
  | k + 1, n, c, hn => by
    unfold dv
    split
    · rename_i hd
      have h := half hn hq hd
      have := dv_facts hq k (n.fdiv q) (c + 1) h.1
      omega
    · exact ⟨hn, Int.le_refl _⟩
theorem dv_half {n q : Int} (hn : 1 ≤ n) (hq : 2 ≤ q) (hd : n.fmod q = 0) (k : Nat) : 1 ≤ (dv (k + 1) n q 0).1 ∧ 2 * (dv (k + 1) n q 0).1 ≤ n := by
  unfold dv
  rw [if_pos hd]
  have h := half hn hq hd
  have := dv_facts hq k (n.fdiv q) (0 + 1) h.1
  omega
abbrev pairObj (p e : Int) (t1 t2 : Tok) (k : Nat) : Obj := { cls := .type "tuple", data := .seq #[.int p t1, .int e t2] k }
inductive PairsA (news : Led) : List Value → List (Int × Int) → Prop
  | nil : PairsA news [] []
  | cons {a : Addr} {p e : Int} {t1 t2 : Tok} {k : Nat} {vs : List Value} {ps : List (Int × Int)} : (a, pairObj p e t1 t2 k) ∈ news → PairsA news vs ps → PairsA news (.ref a :: vs) ((p, e) :: ps)
theorem PairsA.mono {news news' : Led} (h : ∀ p ∈ news, p ∈ news') : ∀ {vs : List Value} {ps : List (Int × Int)}, PairsA news vs ps → PairsA news' vs ps
  | _, _, .nil => .nil
  | _, _, .cons r t => .cons (h _ r) (t.mono h)
theorem PairsA.snoc {news : Led} {a : Addr} {p e : Int} {t1 t2 : Tok} {k : Nat} (hm : (a, pairObj p e t1 t2 k) ∈ news) : ∀ {vs : List Value} {ps : List (Int × Int)}, PairsA news vs ps → PairsA news (vs ++ [.ref a]) (ps ++ [(p, e)])
  | _, _, .nil => .cons hm .nil
  | _, _, .cons r t => .cons r (t.snoc hm)
theorem push_pair {g h h' : Heap} {L D T : Addr} {vs : List Value} {v : Value} {c : Nat} {tl news : Led} {o : Obj} (N : News g L h ((T, o) :: (D, lstObj vs c) :: (tl ++ news))) (hs : Heap.SameBut D h h')
    (hD : h'.get? D = some { cls := .type "list", data := .seq (vs.toArray.push v) (c + 1) }) (hne : ∀ q ∈ tl ++ news, q.1 ≠ D) (hT : T ≠ D) : News g L h' ((D, lstObj (vs ++ [v]) (c + 1)) :: (((T, o) :: tl) ++ news)) := fun p hp => by
  rcases List.mem_cons.mp hp with rfl | hp
  · have z := N (D, lstObj vs c) (.tail _ (.head _))
    refine ⟨hD.trans (congrArg some ?_), z.2⟩
    simp [lstObj]
  · rcases List.mem_cons.mp (show p ∈ (T, o) :: (tl ++ news) from hp) with rfl | hp
    · have z := N (T, o) (.head _)
      exact ⟨hs.extBut _ _ hT z.1, z.2⟩
    · have z := N p (.tail _ (.tail _ hp))
      exact ⟨hs.extBut _ _ (hne p hp) z.1, z.2⟩
theorem halt_app {M : Model} {A : Around} {E : Value → Shared → Prop} {s : Shared} {D : Addr} {v : Value} {Q : Value → Shared → Prop} (h : Halt (wpAny M A (call (.builtin "list.append") [.ref D, v]) Q E s)) :
    wpAny M A (call (.builtin "list.append") [.ref D, v]) Q E s := h
/-- the pairs' values, the outer place first -/
def pairs (f : Int → Int → Int) (nn : Nat) (xs : List Int) : List Int := xs.flatMap fun a => (List.range nn).map fun (j : Nat) => f a (j : Int)
theorem pairs_snoc (f : Int → Int → Int) (nn : Nat) (xs : List Int) (a : Int) : pairs f nn (xs ++ [a]) = pairs f nn xs ++ (List.range nn).map fun (j : Nat) => f a (j : Int) := by simp [pairs]
/-- the divisors that the prime factors make, out of those in zs -/
def dvl : List (Int × Int) → List Int → List Int
  | [], zs => zs
  | (p, e) :: ps, zs => dvl ps (pairs (fun a j => a * p ^ j.toNat) (e + 1).toNat zs)
theorem dvl_snoc (p e : Int) : ∀ (ps : List (Int × Int)) (zs : List Int), dvl (ps ++ [(p, e)]) zs = pairs (fun a j => a * p ^ j.toNat) (e + 1).toNat (dvl ps zs)
  | [], _ => rfl
  | (q, d) :: ps, zs => dvl_snoc p e ps _
/-- small enough on every way -/
def DivOk (ps : List (Int × Int)) : Prop := (∀ i, i ≤ ps.length → (dvl (ps.take i) [1]).length < 64 ∧ ∀ a ∈ dvl (ps.take i) [1], 0 ≤ a ∧ a ≤ 10000) ∧ ∀ q ∈ ps, 0 ≤ q.1 ∧ q.1 ≤ 40 ∧ 0 ≤ q.2 ∧ q.2 ≤ 6
theorem news_ne {g h : Heap} {L a b : Addr} {o o' : Obj} {all : Led} (N : News g L h all) (ha : (a, o) ∈ all) (hb : (b, o') ∈ all) (hne : o.data ≠ o'.data) : a ≠ b := fun e => by
  have h1 := (N _ ha).1
  have h2 := (N _ hb).1
  dsimp only at h1 h2
  rw [e, h2] at h1
  exact hne (congrArg Obj.data (Option.some.inj h1).symm)
end Mine
local macro_rules | `(tactic| walk_at "mine_enter") => `(tactic| (
  (k_fill); (k_dflt (refine' Mine.fn_of ?k6 ?k7 ?k9 ?kB ?c2 ?c3 ?c4 ?c5 ?_; (case k6 => k_is); (case k7 => k_is); (case k9 => exact fun _ => BindsTo.of_eq rfl); (case c5 => decide); (case kB => exact locs rfl); (case c2 => exact rfl); (case c3 => exact rfl); (case c4 => exact rfl); k_whole)); (intro dp un gd cn cs Lc a ccd cl outer base g L' h₁ tk news s B F N X T hks hpre hd hu; (try dsimp only); (try k_fold))))
local macro_rules | `(tactic| walk_at "mine_sub") => `(tactic| first | exact fun _ h => h | (intro p9 h9; (simp only [List.mem_append, List.mem_cons] at h9 ⊢); first | (simp only [h9, or_true, true_or]; done) | ((rcases h9 with h9 | h9) <;> (simp only [h9, or_true, true_or]; done)) | ((rcases h9 with h9 | h9 | h9) <;> (simp only [h9, or_true, true_or]; done)) | ((rcases h9 with (h9 | h9) | h9) <;> (simp only [h9, or_true, true_or]; done)) | grind))
local macro_rules | `(tactic| walk_at "subscriptTail") => `(tactic| (k_here; (with_reducible show wpAny _ _ (subscriptTail _ _ (Value.ref _) (Value.int 0 _)) _ _ _); k_dflt (refine' Mine.rat_top ?R ?F ?X ?N ?S ?he ?_; (case R => assumption); (case F => k_asm); (case X => k_asm); (case N => k_asm); (case S => walk_at "mine_sub"); (case he => with_unfolding_all rfl); k_whole); intro t'))
local macro_rules | `(tactic| walk_at "subscriptTail") => `(tactic| (k_here; (with_reducible show wpAny _ _ (subscriptTail _ _ (Value.ref _) (Value.int 1 _)) _ _ _); k_dflt (refine' Mine.rat_bot ?R ?F ?X ?N ?S ?he ?_; (case R => assumption); (case F => k_asm); (case X => k_asm); (case N => k_asm); (case S => walk_at "mine_sub"); (case he => with_unfolding_all rfl); k_whole); intro t'))
local macro_rules | `(tactic| walk_at "mine_room") => `(tactic| (first | (with_unfolding_all assumption) | ((try simp only [depth_in1, depth_deeper]); (try dsimp only [ktrTop]); omega)))
local macro_rules | `(tactic| walk_at "mine_units") => `(tactic| (have hcL9 := cLine_is; (try simp only [units_in1, units_deeper, Around.mark_units, units_caller] at *); (try dsimp only [ktrTop] at *); omega))
local macro_rules | `(tactic| walk_at "mine_call") => `(tactic| ((case B => k_asm); (case F => k_asm); (case X => k_asm); (case N => k_asm); (case T => k_asm); (case K => first | exact rfl | assumption); (case P => first | trivial | assumption); (case D => walk_at "mine_room"); (case U => walk_at "mine_units"); k_whole))
local macro_rules | `(tactic| walk_at "mine_back") => `(tactic| ((rename Mine.RatA _ _ _ => eR); (rename News _ _ _ _ => eN); (rename Fr _ _ _ _ => eF); refine Mine.rat_back _ ?_ eR eF eN rfl (by assumption)))
local macro_rules | `(tactic| walk_at "mine_rat") => `(tactic| first | assumption | (refine' Mine.RatA.mono ?mR ?mS; (case mR => assumption); (case mS => walk_at "mine_sub")))
local macro_rules | `(tactic| walk_at "mine_bnd") => `(tactic| first | assumption | (refine And.intro ?_ ?_ <;> omega))
local macro_rules | `(tactic| walk_at "exec For") => `(tactic| (k_here; (rename Fr _ _ _ _ => lF'); (with_unfolding_all refine' Mine.for_halt lF' ?k1 ?k2 ?_; (case k1 => exact rfl); (case k2 => exact rfl); k_whole)))
local macro_rules | `(tactic| walk_at "exec For Name Call cons nil") => `(tactic| (k_here; (rename Fr _ _ _ _ => lF'); (with_unfolding_all refine' Mine.for_halt lF' ?k1 ?k2 ?_; (case k1 => exact rfl); (case k2 => exact rfl); k_whole)))
local macro_rules | `(tactic| walk_at "subscriptTail") => `(tactic| (k_here; (with_reducible show wpAny _ _ (subscriptTail _ _ (Value.ref _) (Value.int _ _)) _ _ _); k_dflt (refine' Mine.ser_item ?S ?N ?M ?he ?hg ?hj ?hi ?hf ?_; (case S => assumption); (case N => k_asm); (case M => walk_at "mine_sub"); (case he => with_unfolding_all rfl); (case hg => intro _; with_unfolding_all rfl); (case hj => walk_at "mine_idx"); (case hi => omega); (case hf => omega); k_whole); intro a' R'))
local macro_rules | `(tactic| walk_at "mine_idx") => `(tactic| first | exact Int.zero_add _ | exact Mine.idx_sub (by omega))
local macro_rules | `(tactic| walk_at "compareOp NotEq ref ref") => `(tactic| (k_here; k_dflt (refine' Mine.rat_ne0 ?R ?F ?X ?N ?S ?U ?_; (case R => assumption); (case F => k_asm); (case X => k_asm); (case N => k_asm); (case S => walk_at "mine_sub"); (case U => walk_at "mine_units"); k_whole)))
local macro_rules | `(tactic| walk_at "mine_callA") => `(tactic| ((case B => k_asm); (case F => k_asm); (case X => k_asm); (case N => k_asm); (case T => k_asm); (case K => first | exact rfl | assumption)))
local macro_rules | `(tactic| walk_at "mine_callB") => `(tactic| ((case D => walk_at "mine_room"); (case U => walk_at "mine_units"); k_whole))
local macro_rules | `(tactic| walk_at "mine_ser") => `(tactic| first | assumption | (refine' Mine.SerA.mono ?mR ?mS; (case mR => assumption); (case mS => walk_at "mine_sub")))
local macro_rules | `(tactic| walk_at "mine_enterC") => `(tactic| (
  (k_fill); (k_dflt (refine' Mine.fn_ofC ?k6 ?k7 ?k9 ?kB ?kD ?c2 ?c3 ?c4 ?_; (case k6 => k_is); (case k7 => k_is); (case k9 => exact fun _ => BindsTo.of_eq rfl); (case kB => exact rfl); (case kD => decide +kernel); (case c2 => exact rfl); (case c3 => exact rfl); (case c4 => exact rfl); k_whole)); (intro dp un gd cn cs Lc a ccd cl outer base g L' h₁ tk cells news s B F N Y' l1 X T hks hpre hd hu; (try k_lt l1); k_cells Y'; (try simp only [List.cons_append, List.nil_append] at N); (try dsimp only); (try k_fold))))
local macro_rules | `(tactic| walk_at "eval ListComp") => `(tactic| (k_here; (fail_if_success (rename Mine.Quiet => q9)); k_dflt (refine Mine.lc_halt (by k_asm) (by with_unfolding_all rfl) (by decide) (by rfl) (by decide) (by rfl) ?_)))
local macro_rules | `(tactic| walk_at "exec Assign cons ListComp") => `(tactic| (k_here; (fail_if_success (rename Mine.Quiet => q9)); k_dflt (refine Mine.la_halt (by k_asm) (by rfl) (by with_unfolding_all rfl) (by with_unfolding_all rfl) (by decide) (by rfl) (by decide) (by rfl) (by rfl) (by rfl) ?_)))
local macro_rules | `(tactic| walk_at "call builtin:len") => `(tactic| (k_here; (with_reducible show wpAny _ _ (call (Value.builtin _) [Value.ref _]) _ _ _); k_dflt (refine' Mine.ser_len ?S ?N ?M ?L ?_; (case S => assumption); (case N => k_asm); (case M => walk_at "mine_sub"); (case L => first | omega | decide); k_whole)))
local macro_rules | `(tactic| k_mem) => `(tactic| first | (refine Mine.mem_app_r ?_; k_mem) | (refine Mine.mem_app_l ?_; k_mem))
local macro_rules | `(tactic| walk_at "eval Name") => `(tactic| (k_here; (with_reducible show wpAny _ _ (eval (Expr.Name _ _) (compEnvC _ _ _ _)) _ _ _); k_dflt (refine' kcf_cell ?N ?c ?m ?d ?_; (case N => k_asm); (case c => rfl); (case m => k_mem); (case d => k_asm); k_whole)))
local macro_rules | `(tactic| walk_at "mine_enter0") => `(tactic| (
  (k_fill); (k_dflt (refine' Mine.fn_of ?k6 ?k7 ?k9 ?kB ?c2 ?c3 ?c4 ?c5 ?_; (case k6 => k_is); (case k7 => k_is); (case k9 => exact fun _ => BindsTo.of_eq rfl); (case c5 => decide); (case kB => exact locs rfl); (case c2 => exact rfl); (case c3 => exact rfl); (case c4 => exact rfl); k_whole))))
local macro_rules | `(tactic| walk_at "mine_enterC0") => `(tactic| (
  (k_fill); (k_dflt (refine' Mine.fn_ofC ?k6 ?k7 ?k9 ?kB ?kD ?c2 ?c3 ?c4 ?_; (case k6 => k_is); (case k7 => k_is); (case k9 => exact fun _ => BindsTo.of_eq rfl); (case kB => exact rfl); (case kD => decide +kernel); (case c2 => exact rfl); (case c3 => exact rfl); (case c4 => exact rfl); k_whole))))
namespace Mine
local macro_rules | `(tactic| walk_at "WhlIf") => `(tactic| (refine WhlIf.no (by (simp [Int.fmod_one]; done)) ?_))
theorem gcd_fn (w : World) (mean : ExcName → Option Value) (mg mb : Str → Option Value) (x : Int) (tx ty : Tok) :
    Fn Challenge.rw_sa0083_01.row.prog w (hd.heap_39 w.params) hd.view_39 (looseW hd.view_39 []) mean mg mb 41 1 [.int x tx, .int 1 ty] (fun _ => True) (fun _ r => ∃ t, r = .int 1 t) := by
  walk_at "mine_enter"
  k_steps
  exact fn_old (by k_asm) (by k_asm) (by walk_at "mine_sub") ⟨_, rfl⟩
end Mine
local macro_rules | `(tactic| walk_at "call ref") => `(tactic| (k_here; k_dflt (refine' Mine.fn_use (Mine.gcd_fn _ _ _ _ _ _ _) ?B ?F ?X ?N ?T ?K ?P ?D ?U ?_; walk_at "mine_call"); intro r9 tl9 h9 tk9 F9 N9 hne9 ho9; (obtain ⟨t9, e9⟩ := ho9); subst e9; (try k_sweep); (try dsimp only); (try k_fold)))
local macro_rules | `(tactic| walk_at "mine_none") => `(tactic| fail)
namespace Mine
theorem rat_fn (w : World) (mean : ExcName → Option Value) (mg mb : Str → Option Value) (n b : Int) (tx ty : Tok) (hb : b = 1) :
    Fn Challenge.rw_sa0083_01.row.prog w (hd.heap_39 w.params) hd.view_39 (looseW hd.view_39 []) mean mg mb 76 2 [.int n tx, .int b ty] (fun _ => True) (fun led r => ∃ a, r = .ref a ∧ RatA led a n) := by
  subst hb
  walk_at "mine_enter"
  k_steps
  exact rat_end (Int.fdiv_one _) rfl (by k_asm) (by k_asm) (by assumption) (by walk_at "mine_sub")
end Mine
local macro_rules | `(tactic| walk_at "call ref") => `(tactic| (k_here; k_dflt (refine' Mine.fn_use (Mine.rat_fn _ _ _ _ _ _ _ _ ?hb) ?B ?F ?X ?N ?T ?K ?P ?D ?U ?_; (case hb => first | rfl | decide | omega); walk_at "mine_call"); intro r9 tl9 h9 tk9 F9 N9 hne9 ho9; (obtain ⟨a9, e9, R9⟩ := ho9); subst e9; (try k_sweep); (try dsimp only); (try k_fold)))
namespace Mine
theorem radd_fn (w : World) (mean : ExcName → Option Value) (mg mb : Str → Option Value) (a b : Addr) (x y : Int) (hx : -(2 ^ 60) < x ∧ x < 2 ^ 60) (hy : -(2 ^ 60) < y ∧ y < 2 ^ 60) :
    Fn Challenge.rw_sa0083_01.row.prog w (hd.heap_39 w.params) hd.view_39 (looseW hd.view_39 []) mean mg mb 83 3 [.ref a, .ref b] (fun led => RatA led a x ∧ RatA led b y) (fun led r => ∃ a, r = .ref a ∧ RatA led a (x + y)) := by
  obtain ⟨hx1, hx2⟩ := hx
  obtain ⟨hy1, hy2⟩ := hy
  walk_at "mine_enter"
  rename (RatA _ _ _ ∧ RatA _ _ _) => hp
  obtain ⟨Ra, Rb⟩ := hp
  k_steps
  walk_at "mine_back"
  omega
end Mine
local macro_rules | `(tactic| walk_at "call ref") => `(tactic| (k_here; k_dflt (refine' Mine.fn_use (Mine.radd_fn _ _ _ _ _ _ _ _ ?hx ?hy) ?B ?F ?X ?N ?T ?K ?P ?D ?U ?_; walk_at "mine_callA"; (case P => refine And.intro ?_ ?_ <;> walk_at "mine_rat"); (case hx => walk_at "mine_bnd"); (case hy => walk_at "mine_bnd"); walk_at "mine_callB"); intro r9 tl9 h9 tk9 F9 N9 hne9 ho9; (obtain ⟨a9, e9, R9⟩ := ho9); subst e9; (try k_sweep); (try dsimp only); (try k_fold)))
namespace Mine
theorem rmul_fn (w : World) (mean : ExcName → Option Value) (mg mb : Str → Option Value) (a b : Addr) (x y : Int) (hx : -(2 ^ 60) < x ∧ x < 2 ^ 60) (hy : -(2 ^ 60) < y ∧ y < 2 ^ 60) :
    Fn Challenge.rw_sa0083_01.row.prog w (hd.heap_39 w.params) hd.view_39 (looseW hd.view_39 []) mean mg mb 97 3 [.ref a, .ref b] (fun led => RatA led a x ∧ RatA led b y) (fun led r => ∃ a, r = .ref a ∧ RatA led a (x * y)) := by
  obtain ⟨hx1, hx2⟩ := hx
  obtain ⟨hy1, hy2⟩ := hy
  walk_at "mine_enter"
  rename (RatA _ _ _ ∧ RatA _ _ _) => hp
  obtain ⟨Ra, Rb⟩ := hp
  k_steps
  walk_at "mine_back"
  rfl
end Mine
local macro_rules | `(tactic| walk_at "call ref") => `(tactic| (k_here; k_dflt (refine' Mine.fn_use (Mine.rmul_fn _ _ _ _ _ _ _ _ ?hx ?hy) ?B ?F ?X ?N ?T ?K ?P ?D ?U ?_; walk_at "mine_callA"; (case P => refine And.intro ?_ ?_ <;> walk_at "mine_rat"); (case hx => walk_at "mine_bnd"); (case hy => walk_at "mine_bnd"); walk_at "mine_callB"); intro r9 tl9 h9 tk9 F9 N9 hne9 ho9; (obtain ⟨a9, e9, R9⟩ := ho9); subst e9; (try k_sweep); (try dsimp only); (try k_fold)))
namespace Mine
theorem vast_no {x : Int} (h1 : -(2 ^ 60) < x) (h2 : x < 2 ^ 60) (h : (2 : Int) ^ Int.toNat 64 ≤ if 1 > (if x < 0 then -x else x) then 1 else if x < 0 then -x else x) : False := by
  have e64 : (2 : Int) ^ Int.toNat 64 = 18446744073709551616 := by decide
  rw [e64] at h
  omega
theorem vast_fn (w : World) (mean : ExcName → Option Value) (mg mb : Str → Option Value) (a : Addr) (x : Int) (hx : -(2 ^ 60) < x ∧ x < 2 ^ 60) :
    Fn Challenge.rw_sa0083_01.row.prog w (hd.heap_39 w.params) hd.view_39 (looseW hd.view_39 []) mean mg mb 111 1 [.ref a] (fun led => RatA led a x) (fun _ r => r = .bool false) := by
  obtain ⟨hx1, hx2⟩ := hx
  walk_at "mine_enter"
  rename (RatA _ _ _) => Ra
  k_steps
  all_goals first | exact fn_old (by k_asm) (by k_asm) (by walk_at "mine_sub") (congrArg Value.bool (decide_eq_false (by assumption))) | exact (vast_no hx1 hx2 (by assumption)).elim
end Mine
local macro_rules | `(tactic| walk_at "call ref") => `(tactic| (k_here; k_dflt (refine' Mine.fn_use (Mine.vast_fn _ _ _ _ _ _ ?hx) ?B ?F ?X ?N ?T ?K ?P ?D ?U ?_; walk_at "mine_callA"; (case P => walk_at "mine_rat"); (case hx => walk_at "mine_bnd"); walk_at "mine_callB"); intro r9 tl9 h9 tk9 F9 N9 hne9 ho9; subst ho9; (try k_sweep); (try dsimp only); (try k_fold)))
namespace Mine
theorem let_fn (w : World) (mean : ExcName → Option Value) (mg mb : Str → Option Value) (a : Addr) (x : Int) (hx : -(2 ^ 60) < x ∧ x < 2 ^ 60) :
    Fn Challenge.rw_sa0083_01.row.prog w (hd.heap_39 w.params) hd.view_39 (looseW hd.view_39 []) mean mg mb 125 2 [.ref a] (fun led => RatA led a x) (fun _ r => r = .ref a) := by
  walk_at "mine_enter"
  rename (RatA _ _ _) => Ra
  k_steps
  exact fn_old (by k_asm) (by k_asm) (by walk_at "mine_sub") rfl
end Mine
local macro_rules | `(tactic| walk_at "call ref") => `(tactic| (k_here; k_dflt (refine' Mine.fn_use (Mine.let_fn _ _ _ _ _ _ ?hx) ?B ?F ?X ?N ?T ?K ?P ?D ?U ?_; walk_at "mine_callA"; (case P => walk_at "mine_rat"); (case hx => walk_at "mine_bnd"); walk_at "mine_callB"); intro r9 tl9 h9 tk9 F9 N9 hne9 ho9; subst ho9; (try k_sweep); (try dsimp only); (try k_fold)))
namespace Mine
theorem mixed_fn (w : World) (mean : ExcName → Option Value) (mg mb : Str → Option Value) (la lb : Addr) (as bs : List Int) (j : Nat) (tj : Tok) (ha : Small as) (hb : Small bs) (hja : j < as.length) (hjb : j < bs.length) :
    Fn Challenge.rw_sa0083_01.row.prog w (hd.heap_39 w.params) hd.view_39 (looseW hd.view_39 []) mean mg mb 132 4 [.ref la, .ref lb, .int (j : Int) tj] (fun led => SerA led la as ∧ SerA led lb bs) (fun led r => ∃ a, r = .ref a ∧ RatA led a (cv as bs j (j + 1))) := by
  have hj64 : j < 64 := Nat.lt_of_lt_of_le hja ha.1
  walk_at "mine_enter"
  rename (SerA _ _ _ ∧ SerA _ _ _) => hp
  obtain ⟨Sa, Sb⟩ := hp
  k_steps
  refine Halt.go ?_
  rename Fr _ _ _ _ => lF
  rename News _ _ _ _ => lN
  rename IsRange _ _ _ _ _ _ _ _ => lR
  have hsz : Builtin.Range.rangeSize 0 ((j : Int) + 1) 1 = ((j + 1 : Nat) : Int) := by rw [rangeSize_nat]; omega
  with_unfolding_all refine range_loop (y := Str.ofString "found") [] (fun i tl v => ∃ a, v = .ref a ∧ RatA tl a (cv as bs j i)) (by rfl) lR (small_one (by omega) (by omega) (by omega) (by omega)) hsz lF lN (by rfl) ⟨68, rfl, .inr (.inl ⟨rfl, rfl⟩)⟩ (fun i t v u tl h' tk' own hi hR hoff hno F' N' => ?_) (fun u v tl h' tk' hR hno F' N' => ?_)
  all_goals (clear lF lN)
  · obtain ⟨a9, rfl, hR⟩ := hR
    have hcv := cv_small ha hb j i
    have hi' : i ≤ j := by omega
    (try dsimp only)
    (try k_fold)
    have hxa := ha.2 i
    have hxb := hb.2 (j - i)
    have hm := mul_small hxa.1 hxa.2 hxb.1 hxb.2
    k_steps
    · refine keep_end (by k_asm) (by k_asm) tl (by walk_at "mine_sub") (by walk_at "mine_sub") hoff hno (by with_unfolding_all rfl) ⟨a9, rfl, ?_⟩ (by ktm_same2)
      unfold cv
      rw [if_neg (by simp_all)]; exact hR
    · refine keep_end (by k_asm) (by k_asm) tl (by walk_at "mine_sub") (by walk_at "mine_sub") hoff hno (by with_unfolding_all rfl) ⟨a9, rfl, ?_⟩ (by ktm_same2)
      unfold cv
      rw [if_neg (by simp_all)]; exact hR
    · rename NewOff _ (_ ++ (tl ++ _ ++ own)) => hne2
      rename NewOff _ (tl ++ _ ++ own) => hne1
      rename RatA _ _ (cv as bs j i + _) => R9
      have hoff2 := off_app (off_app hoff hne1 (by walk_at "mine_sub")) hne2 (by walk_at "mine_sub")
      refine keep_end (by k_asm) (by k_asm) (_ ++ (_ ++ tl)) (by walk_at "mine_sub") (by walk_at "mine_sub") (by simpa only [List.append_assoc] using hoff2) ((hno.app hne1 (by walk_at "mine_sub")).app hne2 (by walk_at "mine_sub")) (by with_unfolding_all rfl) ⟨_, rfl, ?_⟩ (by ktm_same2)
      unfold cv
      rw [if_pos (by simp_all)]; exact R9.mono (by walk_at "mine_sub")
  · obtain ⟨a9, rfl, hR⟩ := hR
    (try dsimp only)
    k_steps
    exact rat_back tl rfl hR F' N' rfl hno
end Mine
local macro_rules | `(tactic| walk_at "call ref") => `(tactic| (k_here; k_dflt (refine' Mine.fn_use (Mine.mixed_fn _ _ _ _ _ _ _ _ _ _ ?ha ?hb ?hja ?hjb) ?B ?F ?X ?N ?T ?K ?P ?D ?U ?_; walk_at "mine_callA"; (case P => refine And.intro ?_ ?_ <;> walk_at "mine_ser"); (case ha => assumption); (case hb => assumption); (case hja => omega); (case hjb => omega); walk_at "mine_callB"); intro r9 tl9 h9 tk9 F9 N9 hne9 ho9; (obtain ⟨a9, e9, R9⟩ := ho9); subst e9; (try k_sweep); (try dsimp only); (try k_fold)))
namespace Mine
theorem smul_fn (w : World) (mean : ExcName → Option Value) (mg mb : Str → Option Value) (la lb : Addr) (as bs : List Int) (ha : Small as) (hb : Small bs) (hl : bs.length = as.length) :
    Fn Challenge.rw_sa0083_01.row.prog w (hd.heap_39 w.params) hd.view_39 (looseW hd.view_39 []) mean mg mb 137 5 [.ref la, .ref lb] (fun led => SerA led la as ∧ SerA led lb bs) (fun led r => ∃ l, r = .ref l ∧ SerA led l (sm as bs)) := by
  have hla := ha.1
  walk_at "mine_enterC"
  rename (SerA _ _ _ ∧ SerA _ _ _) => hp
  obtain ⟨Sa, Sb⟩ := hp
  k_steps
  refine Halt.go ?_
  rename IsRange _ _ _ _ _ _ _ _ => lR
  refine LCg.CompSrc.range (n := as.length) (by rfl) (by k_asm) (by k_asm) lR (small_one (by omega) (by omega) (by omega) (by omega)) (by rw [rangeSize_nat]; omega) (by rw [PySem.sizeLine_eq]; omega) ?_
  intro g'
  refine comp_rest (fun i ys tl => RatsA tl ys ((List.range i).map fun j => cv as bs j (j + 1))) .nil ?_ ?_
  · intro i v ys tl I oI C oC D m₂ h tk E' hi hv hR hno hC hx F' N' off ne
    obtain ⟨t, rfl⟩ := hv
    have hcv := cv_small ha hb i (i + 1)
    have h0i : (0 : Int) + (i : Int) = (i : Int) := Int.zero_add _
    rw [h0i] at hx
    (try dsimp only)
    (try k_fold)
    k_steps
    rename NewOff _ ((I, oI) :: _) => hneA
    rename RatA _ _ (cv as bs i (i + 1)) => R9
    refine turn_end (_ ++ tl) (by k_asm) (by k_asm) (by walk_at "mine_sub") (by simpa only [List.append_assoc] using off3_app off hneA (.head _) (.tail _ (.head _)) (.tail _ (.tail _ (.head _)))) (hno.app hneA (by walk_at "mine_sub")) trivial ?_
    rw [List.range_succ, List.map_append]
    exact (hR.mono (by walk_at "mine_sub")).snoc (R9.mono (by walk_at "mine_sub"))
  · intro ys tl hR hno
    intro D h tk F' N' o1
    exact ser_end hR F' N' hno o1 (by walk_at "mine_sub")
end Mine
local macro_rules | `(tactic| walk_at "call ref") => `(tactic| (k_here; k_dflt (refine' Mine.fn_use (Mine.smul_fn _ _ _ _ _ _ _ _ ?ha ?hb ?hl) ?B ?F ?X ?N ?T ?K ?P ?D ?U ?_; walk_at "mine_callA"; (case P => refine And.intro ?_ ?_ <;> walk_at "mine_ser"); (case ha => assumption); (case hb => assumption); (case hl => first | assumption | omega); walk_at "mine_callB"); intro r9 tl9 h9 tk9 F9 N9 hne9 ho9; (obtain ⟨a9, e9, R9⟩ := ho9); subst e9; (try k_sweep); (try dsimp only); (try k_fold)))
namespace Mine
theorem cut_pick {v : Value} {n : Nat} (h : 1 ≤ n) : (slicePick #[v] none (some (n : Int)) none).toList = [v] := by
  rw [kms_pick_eq]
  unfold kms_pick kms_lo kms_hi
  have e1 : ¬ ((n : Int) < 0) := by omega
  have e2 : min (n : Int).toNat ([v].length) = 1 := by
    show min (n : Int).toNat 1 = 1
    omega
  simp only [if_neg e1, Nat.sub_zero, List.drop_zero]
  rw [e2]
  rfl
theorem fold_rep (v : Value) : ∀ (m : Nat) (acc : Array Value), List.foldl (fun x1 x2 => x1 ++ x2) acc (List.replicate m #[v]) = acc ++ (List.replicate m v).toArray
  | 0, acc => by simp
  | m + 1, acc => by
    rw [List.replicate_succ, List.foldl_cons, fold_rep v m]
    apply Array.ext'
    simp [List.replicate_succ]
theorem rats_rep {news : Led} : ∀ m, RatsA news (List.replicate m (.ref 68)) (List.replicate m 0)
  | 0 => .nil
  | m + 1 => by
    rw [List.replicate_succ, List.replicate_succ]
    exact .cons (.inr (.inl ⟨rfl, rfl⟩)) (rats_rep m)
theorem cut_end {g : Heap} {news all : Led} {s : Shared} {L' D : Addr} {m' : Str → Option Value} {h' : Heap} {tk' k : Nat} {n : Nat} {x : Int} {its its2 : Array Value} (hi : its = #[.ref 69]) (hi2 : its2 = List.foldl (fun x1 x2 => x1 ++ x2) #[] (List.replicate (if (#[Value.ref 68] : Array Value).isEmpty = true then 0 else x.toNat) #[Value.ref 68])) (hx : x = ((n - 1 : Nat) : Int))
    (F : Fr g L' h' m') (N : News g L' h' ((D, ({ cls := .type "list", data := .seq (its.toList ++ its2.toList).toArray k } : Obj)) :: all)) (hl : ∀ p ∈ news, p.1 < D) (hs : ∀ p ∈ news, p ∈ all) :
    FnEnd g news (fun led r => ∃ l, r = .ref l ∧ SerA led l (1 :: List.replicate (n - 1) 0)) s (.ref D) { s with heap := h', toks := tk' } := by
  subst hi; subst hi2; subst hx
  refine fn_new F N (.head _) (allLt_of hl) (fun p hp => .tail _ (hs p hp)) ⟨D, rfl, .ref 69 :: List.replicate (n - 1) (.ref 68), k, ?_, .cons (.inr (.inr ⟨rfl, rfl⟩)) (rats_rep _)⟩
  have e : (#[Value.ref 69].toList ++ (List.foldl (fun x1 x2 => x1 ++ x2) #[] (List.replicate (if (#[Value.ref 68] : Array Value).isEmpty = true then 0 else ((n - 1 : Nat) : Int).toNat) #[Value.ref 68])).toList) = Value.ref 69 :: List.replicate (n - 1) (.ref 68) := by
    rw [fold_rep]
    simp
  rw [e]
  exact .head _
theorem cut_fn (w : World) (mean : ExcName → Option Value) (mg mb : Str → Option Value) (l : Addr) (n : Nat) (tn : Tok) (h1 : 1 ≤ n) (h2 : n ≤ 64) :
    Fn Challenge.rw_sa0083_01.row.prog w (hd.heap_39 w.params) hd.view_39 (looseW hd.view_39 []) mean mg mb 118 1 [.ref l, .int (n : Int) tn] (fun led => ∃ k, (l, lstObj [.ref 69] k) ∈ led) (fun led r => ∃ l, r = .ref l ∧ SerA led l (1 :: List.replicate (n - 1) 0)) := by
  walk_at "mine_enter"
  rename (∃ _, _) => hp
  obtain ⟨k, hm⟩ := hp
  have S1 : SerA _ l [1] := ⟨[.ref 69], k, hm, .cons (.inr (.inr ⟨rfl, rfl⟩)) .nil⟩
  k_steps
  have hN := (News.get (by k_asm) hm)
  k_dflt (refine' kmk_slice_lit (its := #[.ref 69]) (zs := [.ref 69]) ?F ?N ?l ?p ?q (cut_pick h1) ?_ ?s ?t ?z; (case F => k_asm); (case N => k_asm); (case l => exact ⟨_, hN, rfl, _, rfl⟩); (case p => kmk_part); (case q => kmk_part); (case s => with_unfolding_all rfl); (case t => kmk_pure); (case z => decide))
  clear hN
  intro D' h' F' N' l1
  k_steps
  rename News _ _ _ ((_, W.listOf #[Value.ref 68] 0) :: _) => hN
  k_dflt (refine' mul_list (items := #[.ref 68]) ?F ?N ?l ?a ?b ?c ?_; (case F => k_asm); (case N => k_asm); (case l => exact (hN _ (.head _)).1); (case a => simp; omega); (case b => simp; omega); (case c => simp; omega))
  intro h3 F3 N3
  (try dsimp only)
  clear hN
  have hN3 := N3
  k_dflt (refine' add_arrays (its := #[.ref 69]) (its2 := List.foldl (fun x1 x2 => x1 ++ x2) #[] (List.replicate (if (#[Value.ref 68] : Array Value).isEmpty = true then 0 else ((n : Int) - ([1] : List Int).length).toNat) #[Value.ref 68])) F3 N3 ?l ?b ?_ ?z; (case l => exact ⟨_, (hN3 _ (.tail _ (.tail _ (.head _)))).1, rfl, _, rfl⟩); (case b => exact ⟨_, (hN3 _ (.head _)).1, rfl, _, rfl⟩); (case z => rw [fold_rep]; simp [PySem.sizeLine_eq]; omega))
  intro h4 F4 N4
  exact cut_end (n := n) rfl rfl (by simp; omega) F4 N4 (fun p hp => Heap.lt_size (hN3 p (by simp [hp])).1) (by walk_at "mine_sub")
end Mine
local macro_rules | `(tactic| walk_at "call ref") => `(tactic| (k_here; k_dflt (refine' Mine.fn_use (Mine.cut_fn _ _ _ _ _ _ _ ?h1 ?h2) ?B ?F ?X ?N ?T ?K ?P ?D ?U ?_; walk_at "mine_callA"; (case P => exact ⟨_, by k_mem⟩); (case h1 => omega); (case h2 => omega); walk_at "mine_callB"); intro r9 tl9 h9 tk9 F9 N9 hne9 ho9; (obtain ⟨a9, e9, R9⟩ := ho9); subst e9; (try k_sweep); (try dsimp only); (try k_fold)))
namespace Mine
/-- a one, noughts behind it -/
def unit (n : Nat) : List Int := 1 :: List.replicate (n - 1) 0
theorem unit_length {n : Nat} (h : 1 ≤ n) : (unit n).length = n := by simp [unit]; omega
theorem pow2_fn (w : World) (mean : ExcName → Option Value) (mg mb : Str → Option Value) (la : Addr) (as : List Int) (tm : Tok) (h1 : Small as) (h2 : Small (sm as as)) (he : Small (1 :: List.replicate (as.length - 1) 0)) (hn : 1 ≤ as.length) :
    Fn Challenge.rw_sa0083_01.row.prog w (hd.heap_39 w.params) hd.view_39 (looseW hd.view_39 []) mean mg mb 151 6 [.ref la, .int 2 tm] (fun led => SerA led la as) (fun led r => ∃ l, r = .ref l ∧ SerA led l (sm (1 :: List.replicate (as.length - 1) 0) (sm as as))) := by
  have hl1 := h1.1
  have hl2 := sm_length as as
  have hle : (1 :: List.replicate (as.length - 1) (0 : Int)).length = as.length := unit_length hn
  walk_at "mine_enter"
  rename (SerA _ _ _) => Sa
  k_steps
  rename SerA _ _ (sm (1 :: _) (sm as as)) => R9
  rename NewOff _ _ => hno
  exact ser_back R9 (by k_asm) (by k_asm) hno (by walk_at "mine_sub") (by walk_at "mine_sub")
end Mine
namespace Mine
theorem pow4_fn (w : World) (mean : ExcName → Option Value) (mg mb : Str → Option Value) (la : Addr) (as : List Int) (tm : Tok) (h1 : Small as) (h2 : Small (sm as as)) (h4 : Small (sm (sm as as) (sm as as))) (he : Small (1 :: List.replicate (as.length - 1) 0)) (hn : 1 ≤ as.length) :
    Fn Challenge.rw_sa0083_01.row.prog w (hd.heap_39 w.params) hd.view_39 (looseW hd.view_39 []) mean mg mb 151 6 [.ref la, .int 4 tm] (fun led => SerA led la as) (fun led r => ∃ l, r = .ref l ∧ SerA led l (sm (1 :: List.replicate (as.length - 1) 0) (sm (sm as as) (sm as as)))) := by
  have hl1 := h1.1
  have hl2 := sm_length as as
  have hl4 := sm_length (sm as as) (sm as as)
  have hle : (1 :: List.replicate (as.length - 1) (0 : Int)).length = as.length := unit_length hn
  walk_at "mine_enter"
  rename (SerA _ _ _) => Sa
  k_steps
  rename SerA _ _ (sm (1 :: _) _) => R9
  rename NewOff _ _ => hno
  exact ser_back R9 (by k_asm) (by k_asm) hno (by walk_at "mine_sub") (by walk_at "mine_sub")
end Mine
namespace Mine
theorem pow8_fn (w : World) (mean : ExcName → Option Value) (mg mb : Str → Option Value) (la : Addr) (as : List Int) (tm : Tok) (h1 : Small as) (h2 : Small (sm as as)) (h4 : Small (sm (sm as as) (sm as as))) (h8 : Small (sm (sm (sm as as) (sm as as)) (sm (sm as as) (sm as as)))) (he : Small (1 :: List.replicate (as.length - 1) 0)) (hn : 1 ≤ as.length) :
    Fn Challenge.rw_sa0083_01.row.prog w (hd.heap_39 w.params) hd.view_39 (looseW hd.view_39 []) mean mg mb 151 6 [.ref la, .int 8 tm] (fun led => SerA led la as) (fun led r => ∃ l, r = .ref l ∧ SerA led l (sm (1 :: List.replicate (as.length - 1) 0) (sm (sm (sm as as) (sm as as)) (sm (sm as as) (sm as as))))) := by
  have hl1 := h1.1
  have hl2 := sm_length as as
  have hl4 := sm_length (sm as as) (sm as as)
  have hl8 := sm_length (sm (sm as as) (sm as as)) (sm (sm as as) (sm as as))
  have hle : (1 :: List.replicate (as.length - 1) (0 : Int)).length = as.length := unit_length hn
  walk_at "mine_enter"
  rename (SerA _ _ _) => Sa
  k_steps
  rename SerA _ _ (sm (1 :: _) _) => R9
  rename NewOff _ _ => hno
  exact ser_back R9 (by k_asm) (by k_asm) hno (by walk_at "mine_sub") (by walk_at "mine_sub")
end Mine
namespace Mine
open PySem (Walks)
section
variable {prog : Program} {w : World} {A : Around} {E : Value → Shared → Prop} {R : Result → Shared → Prop} {s : Shared}

abbrev lc2 (elt iter iter2 : Expr) (x y : Str) (px py : Pos) (scope : Scope) (pos : Pos) : Expr := .ListComp elt [⟨.Name x px, iter, [], 0⟩, ⟨.Name y py, iter2, [], 0⟩] scope pos

theorem turn_out (elt iter iter2 : Expr) (x y : Str) (px py : Pos) (scope : Scope) (pos : Pos) (it acc : Value) (env : Env) :
    compTurn (lc2 elt iter iter2 x y px py scope pos) 0 it acc env = (standAt iter.pos >>= fun _ => pyNext it >>= fun r => match r with
      | none => pure (.done .next)
      | some v => letOwnedTupleGo (.Name x px) it v >>= fun _ => assign (.Name x px) env v >>= fun _ =>
        eval iter2 env >>= fun z => standAt iter2.pos >>= fun _ => foldedSetIterable iter2 env z >>= fun z => holding [z] (pyIter z) >>= fun it2 => runOwn (.compStart (lc2 elt iter iter2 x y px py scope pos) 1 it2 acc env) env >>= fun _ =>
          again (.compLoop (lc2 elt iter iter2 x y px py scope pos) 0 it acc env)) := by rfl

theorem turn_in (elt iter iter2 : Expr) (x y : Str) (px py : Pos) (scope : Scope) (pos : Pos) (it acc : Value) (env : Env) :
    compTurn (lc2 elt iter iter2 x y px py scope pos) 1 it acc env = (standAt iter2.pos >>= fun _ => pyNext it >>= fun r => match r with
      | none => pure (.done .next)
      | some v => letOwnedTupleGo (.Name y py) it v >>= fun _ => assign (.Name y py) env v >>= fun _ =>
        (eval elt env >>= fun z => call (.builtin "list.append") [acc, z] >>= fun _ => pure ()) >>= fun _ =>
          again (.compLoop (lc2 elt iter iter2 x y px py scope pos) 1 it acc env)) := by rfl

theorem loop_out {elt iter iter2 : Expr} {x y : Str} {px py : Pos} {scope : Scope} {pos : Pos} {it acc : Value} {env : Env} (I : Nat → Shared → Prop)
    (turn : ∀ n s, I n s → wpAny (model prog w) A (pyNext it) (fun r s₁ => match r with
      | none => R (.ok .next) s₁
      | some v => wpAny (model prog w) A (assign (.Name x px) env v) (fun _ s₂ => wpAny (model prog w) A (eval iter2 env) (fun z s₃ => wpAny (model prog w) A (pyIter z) (fun it2 s₄ =>
          codeAny (model prog w) A (.compStart (lc2 elt iter iter2 x y px py scope pos) 1 it2 acc env) (fun r s' => match r with | .ok _ => ∃ m, m < n ∧ I m s' | .error e => cameBackBy (model prog w) A env (notedBy (model prog w) A env fun e s' => R (.error e) s') e s') s₄)
          (notedBy (model prog w) A env fun e s' => R (.error e) s') s₃) (notedBy (model prog w) A env fun e s' => R (.error e) s') s₂) (notedBy (model prog w) A env fun e s' => R (.error e) s') s₁) (notedBy (model prog w) A env fun e s' => R (.error e) s') s)
    (n : Nat) (h : I n s) (hs : ∀ z, foldedSetIterable iter2 env z = pure z) :
    codeAny (model prog w) A (.compLoop (lc2 elt iter iter2 x y px py scope pos) 0 it acc env) R s := by
  refine codeAny_loop rfl I (fun n s hI => ?_) n h
  show wpAny _ A ((compTurn (lc2 elt iter iter2 x y px py scope pos) 0 it acc env).onRaise (fun x => do noteFrame x env; theTreesLotGoes x)) _ _ s
  refine wpAny_noted ?_
  rw [turn_out]
  refine wpAny_bind (wpAny_standAt (wpAny_bind (wpAny_mono (turn n s hI) (fun r s₁ h₁ => ?_) fun _ _ h' => h')))
  cases r with
  | none => exact wpAny_pure h₁
  | some v =>
    refine wpAny_bind (wpAny_of_eq (rfl : letOwnedTupleGo (.Name x px) it v = pure ()) ?_)
    refine wpAny_bind (wpAny_mono h₁ (fun _ s₂ h₂ => wpAny_bind (wpAny_mono h₂ (fun z s₃ h₃ => wpAny_bind (wpAny_standAt (wpAny_bind (wpAny_of_eq (hs z) (wpAny_bind (wpAny_holding (wpAny_mono h₃ (fun it2 s₄ h₄ => ?_) fun _ _ h' => h'))))))) fun _ _ h' => h')) fun _ _ h' => h')
    refine wpAny_bind (wpAny_runOwn (codeAny_mono h₄ fun r s' hr => ?_))
    cases r with
    | ok f => exact wpAny_pure ⟨rfl, hr⟩
    | error e => exact hr

theorem loop_in {elt iter iter2 : Expr} {x y : Str} {px py : Pos} {scope : Scope} {pos : Pos} {it acc : Value} {env : Env} (I : Nat → Shared → Prop)
    (turn : ∀ n s, I n s → wpAny (model prog w) A (pyNext it) (fun r s₁ => match r with
      | none => R (.ok .next) s₁
      | some v => wpAny (model prog w) A (assign (.Name y py) env v) (fun _ s₂ => wpAny (model prog w) A (eval elt env) (fun z s₃ =>
          wpAny (model prog w) A (call (.builtin "list.append") [acc, z]) (fun _ s₄ => ∃ m, m < n ∧ I m s₄) (notedBy (model prog w) A env fun e s' => R (.error e) s') s₃)
          (notedBy (model prog w) A env fun e s' => R (.error e) s') s₂) (notedBy (model prog w) A env fun e s' => R (.error e) s') s₁) (notedBy (model prog w) A env fun e s' => R (.error e) s') s)
    (n : Nat) (h : I n s) : codeAny (model prog w) A (.compLoop (lc2 elt iter iter2 x y px py scope pos) 1 it acc env) R s := by
  refine codeAny_loop rfl I (fun n s hI => ?_) n h
  show wpAny _ A ((compTurn (lc2 elt iter iter2 x y px py scope pos) 1 it acc env).onRaise (fun x => do noteFrame x env; theTreesLotGoes x)) _ _ s
  refine wpAny_noted ?_
  rw [turn_in]
  refine wpAny_bind (wpAny_standAt (wpAny_bind (wpAny_mono (turn n s hI) (fun r s₁ h₁ => ?_) fun _ _ h' => h')))
  cases r with
  | none => exact wpAny_pure h₁
  | some v =>
    refine wpAny_bind (wpAny_of_eq (rfl : letOwnedTupleGo (.Name y py) it v = pure ()) ?_)
    exact wpAny_bind (wpAny_mono h₁ (fun _ s₂ h₂ => wpAny_bind (wpAny_bind (wpAny_mono h₂ (fun x s₃ h₃ => wpAny_bind (wpAny_mono h₃
      (fun _ s₄ h₄ => wpAny_pure (wpAny_pure ⟨rfl, h₄⟩)) fun _ _ h' => h')) fun _ _ h' => h'))) fun _ _ h' => h')

theorem start_in {elt iter iter2 : Expr} {x y : Str} {px py : Pos} {scope : Scope} {pos : Pos} {it acc : Value} {env : Env}
    (h0 : codeAny (model prog w) A (.compLoop (lc2 elt iter iter2 x y px py scope pos) 1 it acc env) R s)
    (h : wpAny (model prog w) A (pyIter it) (fun it' s' => codeAny (model prog w) A (.compLoop (lc2 elt iter iter2 x y px py scope pos) 1 it' acc env) R s')
      (notedBy (model prog w) A env fun x s' => R (.error x) s') s) :
    codeAny (model prog w) A (.compStart (lc2 elt iter iter2 x y px py scope pos) 1 it acc env) R s := by
  refine codeAny_of_tree ?_
  show wpAny _ _ ((compStart (lc2 elt iter iter2 x y px py scope pos) 1 it acc env).onRaise (fun x => do noteFrame x env; standAt theWindowsPlace)) _ _ s
  refine wpAny_notedAt ?_
  unfold compStart
  show wpAny _ _ (ask >>= _) _ _ s
  refine wpAny_bind (wpAny_askSetting (wpAny_ite ?_))
  split
  · first
      | exact wpAny_bind (wpAny_pure (wpAny_pure (And.intro rfl h0)))
      | exact wpAny_pure (And.intro rfl h0)
  · first
      | exact wpAny_bind (wpAny_rule (wpAny_bind (wpAny_standAt (wpAny_bind (wpAny_mono h (fun it' s' h' => wpAny_pure (And.intro rfl h')) fun _ _ x => x)))))
      | (refine wpAny_bind (wpAny_rule ?_); show wpAny _ _ (standAt iter2.pos >>= _) _ _ s; exact wpAny_bind (wpAny_standAt (wpAny_bind (wpAny_mono h (fun it' s' h' => wpAny_pure (And.intro rfl h')) fun _ _ x => x))))
end
end Mine
namespace Mine
structure C2 (H h : Heap) (I l D C : Addr) (i : Nat) (ys : List Value) (m' : Str → Option Value) : Prop where
  keep : ∀ b o, H.get? b = some o → h.get? b = some o
  it : h.IsListIter I l i
  acc : h.get? D = some (LCg.lst ys)
  ns : h.Ns C m'
theorem C2.keeps {H h h' : Heap} {I l D C : Addr} {i : Nat} {ys : List Value} {m' : Str → Option Value} (x : C2 H h I l D C i ys m') (hk : ∀ b o, h.get? b = some o → h'.get? b = some o) : C2 H h' I l D C i ys m' :=
  ⟨fun b o e => hk b o (x.keep b o e), x.it.at fun o e => hk _ o e, hk _ _ x.acc, x.ns.at' fun o e => hk _ o e⟩
theorem C2.but {H h h' : Heap} {I l D C b₀ : Addr} {i : Nat} {ys : List Value} {m' : Str → Option Value} (x : C2 H h I l D C i ys m') (hk : ∀ b o, b ≠ b₀ → h.get? b = some o → h'.get? b = some o) (hH : H.get? b₀ = none) (hI : I ≠ b₀) (hD : D ≠ b₀) (hC : C ≠ b₀) :
    C2 H h' I l D C i ys m' :=
  ⟨fun b o e => hk b o (fun q => by rw [q, hH] at e; cases e) (x.keep b o e), x.it.at fun o e => hk _ o hI e, hk _ _ hD x.acc, x.ns.at' fun o e => hk _ o hC e⟩
theorem C2.next {H h h' : Heap} {I l D C : Addr} {i j : Nat} {ys : List Value} {m' : Str → Option Value} (x : C2 H h I l D C i ys m') (hs : Heap.SameBut I h h') (hit : h'.IsListIter I l j) (hH : H.get? I = none) (hD : D ≠ I) (hC : C ≠ I) : C2 H h' I l D C j ys m' :=
  ⟨fun b o e => hs.extBut b o (fun q => by rw [q, hH] at e; cases e) (x.keep b o e), hit, hs.extBut _ _ hD x.acc, x.ns.at' fun o e => hs.extBut _ o hC e⟩
theorem C2.put {H h h' : Heap} {I l D C : Addr} {i : Nat} {ys : List Value} {m' m'' : Str → Option Value} (x : C2 H h I l D C i ys m') (hs : Heap.SameBut C h h') (hn : h'.Ns C m'') (hH : H.get? C = none) (hI : I ≠ C) (hD : D ≠ C) : C2 H h' I l D C i ys m'' :=
  ⟨fun b o e => hs.extBut b o (fun q => by rw [q, hH] at e; cases e) (x.keep b o e), x.it.at fun o e => hs.extBut _ o hI e, hs.extBut _ _ hD x.acc, hn⟩
theorem C2.push {H h h' : Heap} {I l D C : Addr} {i : Nat} {ys zs : List Value} {m' : Str → Option Value} (x : C2 H h I l D C i ys m') (hs : Heap.SameBut D h h') (ha : h'.get? D = some (LCg.lst zs)) (hH : H.get? D = none) (hI : I ≠ D) (hC : C ≠ D) : C2 H h' I l D C i zs m' :=
  ⟨fun b o e => hs.extBut b o (fun q => by rw [q, hH] at e; cases e) (x.keep b o e), x.it.at fun o e => hs.extBut _ o hI e, ha, x.ns.at' fun o e => hs.extBut _ o hC e⟩

section
variable {prog : Program} {w : World} {A : Around} {E : Value → Shared → Prop} {s : Shared} {env : Env} {h₀ : Heap} {L : Addr} {m : Str → Option Value}

theorem inner_ints {elt iter iter2 : Expr} {x y : Str} {px py : Pos} {scope : Scope} {pos : Pos} {cl : List (Str × Addr)} {R : Result → Shared → Prop} {s₁ s₂ : Shared} {H : Heap} {I l D C r : Addr} {i nn : Nat} {ys : List Value} {zs : List Int} {m' : Str → Option Value} {t u v : Tok} {tx : Tok} (f : Int → Int → Int) (a : Int)
    (hh : A.handled = none) (hkind : scope.kind = .function) (hyl : scope.names.lookup y = some .local) (hxy : x ≠ y) (hnn : nn ≤ 64) (hlen : ys.length + nn ≤ 1000) (hHI : H.get? I = none) (hHD : H.get? D = none) (hHC : H.get? C = none) (hDC : D ≠ C) (hID : I ≠ D) (hIC : I ≠ C) (hHs : ∀ b, s₂.heap.objs.size ≤ b → H.get? b = none)
    (hs₂ : ∃ h tk, s₂ = { s₁ with heap := h, toks := tk }) (x2 : C2 H s₂.heap I l D C i ys m') (hx : m' x = some (.int a tx)) (hy : IntsAre ys zs)
    (hr : IsRange s₂.heap r 0 (nn : Int) 1 t u v)
    (helt : ∀ (j : Nat) m₂ t₁ t₂ h tk ys (E' : Value → Shared → Prop), j < nn → C2 H h I l D C i ys m₂ → m₂ x = some (.int a t₁) → m₂ y = some (.int (j : Int) t₂) →
      wpAny (model prog w) A (eval elt (compEnvC scope cl C env)) (fun z s' => (∃ q, z = .int (f a j) q) ∧ Keeps { s₁ with heap := h, toks := tk } s') E' { s₁ with heap := h, toks := tk })
    (done : ∀ h tk m'' ys', C2 H h I l D C i ys' m'' → IntsAre ys' (zs ++ (List.range nn).map fun (j : Nat) => f a (j : Int)) → R (.ok .next) { s₁ with heap := h, toks := tk }) :
    wpAny (model prog w) A (pyIter (.ref r)) (fun it2 s' => codeAny (model prog w) A (.compStart (lc2 elt iter iter2 x y px py scope pos) 1 it2 (.ref D) (compEnvC scope cl C env)) R s') E s₂ := by
  have hn : Builtin.Range.rangeSize 0 (nn : Int) 1 = (nn : Int) := by rw [rangeSize_nat]; omega
  refine wpAny_pyIter_range hr (small_one (by omega) (by omega) (by omega) (by omega)) ?_
  obtain ⟨hp₂, tk₂, rfl⟩ := hs₂
  dsimp only at x2 hHs ⊢
  generalize hJ : hp₂.objs.size = J
  have hJn : hp₂.get? J = none := by rw [← hJ]; exact Heap.get?_none_of_le (Nat.le_refl _)
  have ne (b : Addr) (hb : ∃ o, hp₂.get? b = some o) : b ≠ J := fun q => by obtain ⟨o, e⟩ := hb; rw [q, hJn] at e; cases e
  have hIJ : I ≠ J := ne I (by obtain ⟨o, e, _⟩ := x2.it; exact ⟨o, e⟩)
  have hDJ : D ≠ J := ne D ⟨_, x2.acc⟩
  have hCJ : C ≠ J := ne C (by obtain ⟨o, _, _, e, _⟩ := x2.ns; exact ⟨o, e⟩)
  have hHJ : H.get? J = none := hHs J (by rw [hJ]; exact Nat.le_refl _)
  have x3 : C2 H (hp₂.push { cls := .type "range_iterator", data := .fields #[rawInt 0, rawInt (Builtin.Range.rangeSize 0 (nn : Int) 1), rawInt 1] }) I l D C i ys m' := x2.keeps fun b o e => Heap.get?_push_of_some _ e
  have hit : IsRangeIter (hp₂.push { cls := .type "range_iterator", data := .fields #[rawInt 0, rawInt (Builtin.Range.rangeSize 0 (nn : Int) 1), rawInt 1] }) J (0 + ((0 : Nat) : Int)) ((nn : Int) - ((0 : Nat) : Int)) 1 := by
    show Heap.get? _ _ = _
    rw [← hJ, Heap.get?_push_size _ rfl, hn]
    simp
  generalize hp₂.push { cls := .type "range_iterator", data := .fields #[rawInt 0, rawInt (Builtin.Range.rangeSize 0 (nn : Int) 1), rawInt 1] } = hp₃ at x3 hit ⊢
  have loop : codeAny (model prog w) A (.compLoop (lc2 elt iter iter2 x y px py scope pos) 1 (.ref J) (.ref D) (compEnvC scope cl C env)) R { s₁ with heap := hp₃, toks := tk₂ } := by
    refine loop_in (fun k s' => ∃ j : Nat, ∃ h tk m'' ys' t₁, s' = { s₁ with heap := h, toks := tk } ∧ j ≤ nn ∧ k = nn + 1 - j ∧ C2 H h I l D C i ys' m'' ∧ m'' x = some (.int a t₁) ∧ IsRangeIter h J (0 + ((j : Nat) : Int)) ((nn : Int) - ((j : Nat) : Int)) 1 ∧
      IntsAre ys' (zs ++ (List.range j).map fun (j : Nat) => f a (j : Int)) ∧ ys'.length = ys.length + j) ?_ (nn + 1) ⟨0, hp₃, tk₂, m', ys, tx, rfl, Nat.zero_le _, rfl, x3, hx, hit, by simpa using hy, rfl⟩
    rintro k s' ⟨j, h, tk, m'', ys', t₁, rfl, hj, rfl, x4, hx4, hit4, hy4, hl4⟩
    by_cases hlt : j < nn
    · refine wpAny_pyNext_range_item hit4 (by omega) fun h5 hit5 hs5 => ?_
      have x5 := x4.but (b₀ := J) (fun b o hb e => hs5.extBut b o hb e) hHJ hIJ hDJ hCJ
      dsimp only
      refine wpAny_assign_Name (wpAny_storeName_local (lookup_relabel_local hyl) x5.ns (fun h6 hn6 hs6 => ?_) (by simp [compEnvC, relabel, hkind]))
      have x6 := x5.put hs6 hn6 hHC hIC hDC
      have hit6 : IsRangeIter h6 J (0 + ((j : Nat) : Int) + 1) ((nn : Int) - ((j : Nat) : Int) - 1) 1 := hs6.extBut _ _ (Ne.symm hCJ) hit5
      refine wpAny_mono (helt j _ t₁ tk h6 _ ys' _ hlt x6 (by simp [hxy, hx4]) (by simp)) (fun z s7 h7 => ?_) fun _ _ e => e
      obtain ⟨⟨q, rfl⟩, h8, tk8, rfl, hk8⟩ := h7
      have x8 := x6.keeps hk8
      have hit8 := hk8 _ _ hit6
      refine append_at (hsz := by rw [List.size_toArray, PySem.sizeLine_eq]; omega) x8.acc fun h9 hs9 hD9 => ?_
      have x9 := x8.push (zs := ys' ++ [.int (f a j) q]) hs9 (hD9.trans (congrArg some (LCg.lst_snoc ys' _))) hHD hID (Ne.symm hDC)
      refine ⟨nn + 1 - (j + 1), by omega, j + 1, h9, _, _, _, t₁, rfl, hlt, rfl, x9, by simp [hxy, hx4], ?_, ?_, by simp; omega⟩
      · have := hs9.extBut _ _ (Ne.symm hDJ) hit8
        have e1 : (0 : Int) + ((j : Nat) : Int) + 1 = 0 + ((j + 1 : Nat) : Int) := by omega
        have e2 : (nn : Int) - ((j : Nat) : Int) - 1 = (nn : Int) - ((j + 1 : Nat) : Int) := by omega
        rw [e1, e2] at this
        exact this
      · rw [List.range_succ, List.map_append, ← List.append_assoc]
        exact hy4.append (.cons _ _ .nil)
    · have e : j = nn := by omega
      subst e
      refine wpAny_pyNext_range_end hh hit4 (by omega) fun h5 hs5 => ?_
      exact done h5 _ m'' ys' (x4.but (b₀ := J) (fun b o hb e => hs5 b o hb e) hHJ hIJ hDJ hCJ) hy4
  exact start_in loop (wpAny_pyIter_rangeiter hit loop)

/-- a list comprehension of two clauses, the outer over a list of ints of the ledger, the inner over a range of nn -/
theorem comp2_core {elt iter iter2 : Expr} {x y : Str} {px py : Pos} {scope : Scope} {pos p0 : Pos} {cl : List (Str × Addr)} {use : Option (Value → Sem Unit)} {Q : Value → Shared → Prop} (f : Int → Int → Int) (nn : Nat)
    (hh : A.handled = none) (hclos : closureFor scope env = pure cl) (hcell : ∀ z ∈ scope.names, z.2 ≠ .cell) (hkind : scope.kind = .function)
    (hnames : ∀ z ∈ scope.names, z.2 = .local → scope.names.lookup z.1 = some .local) (hxl : scope.names.lookup x = some .local) (hyl : scope.names.lookup y = some .local) (hxy : x ≠ y) (hnn : nn ≤ 10)
    (h : wpAny (model prog w) A (eval iter env) (fun xv s₁ => ∃ l vs k xs news, xv = .ref l ∧ Fr h₀ L s₁.heap m ∧ News h₀ L s₁.heap news ∧ (l, lstObj vs k) ∈ news ∧ IntsAre vs xs ∧ xs.length ≤ 64 ∧
      (∀ a C oC m₂ t₁ h tk (E' : Value → Shared → Prop), a ∈ xs → LCg.NsObj oC m₂ → m₂ x = some (.int a t₁) → Fr h₀ L h m → News h₀ L h ((C, oC) :: news) →
        wpAny (model prog w) A (eval iter2 (compEnvC scope cl C env)) (fun z s' => (∃ r t u v, z = .ref r ∧ IsRange s'.heap r 0 (nn : Int) 1 t u v) ∧ Keeps { s₁ with heap := h, toks := tk } s') E' { s₁ with heap := h, toks := tk }) ∧
      (∀ a (j : Nat) C oC m₂ t₁ t₂ h tk (E' : Value → Shared → Prop), a ∈ xs → j < nn → LCg.NsObj oC m₂ → m₂ x = some (.int a t₁) → m₂ y = some (.int (j : Int) t₂) → Fr h₀ L h m → News h₀ L h ((C, oC) :: news) →
        wpAny (model prog w) A (eval elt (compEnvC scope cl C env)) (fun z s' => (∃ q, z = .int (f a j) q) ∧ Keeps { s₁ with heap := h, toks := tk } s') E' { s₁ with heap := h, toks := tk }) ∧
      (∀ D C h tk m' ys, Fr h₀ L h m → News h₀ L h ((D, LCg.lst ys) :: news) → (∀ p ∈ news, p.1 ≠ D ∧ p.1 ≠ C) → C ≠ L → D ≠ L → D ≠ C → h₀.get? C = none → h₀.get? D = none → h.Ns C m' → IntsAre ys (pairs f nn xs) → compPost (model prog w) A E use Q (.ref D) C (.ok .next) { s₁ with heap := h, toks := tk })) E s)
    (hs : ∀ z, foldedSetIterable iter env z = pure z := by intro _; rfl) (hs2 : ∀ env z, foldedSetIterable iter2 env z = pure z := by intro _ _; rfl) :
    wpAny (model prog w) A (comprehension (lc2 elt iter iter2 x y px py scope pos) scope env p0 (newList []) false (eval iter env) use) Q E s := by
  refine wpAny_comprehension_free (use := use) rfl hs hclos hkind hnames (wpAny_mono h (fun xv s₁ h₁ => ?_) fun _ _ e => e)
  obtain ⟨l, vs, k, xs, news, rfl, F, N, hm, hi, hlen, hinner, helt, hdone⟩ := h₁
  have hl : s₁.heap.IsList l vs.toArray := ⟨_, (N _ hm).1, rfl, _, rfl⟩
  refine wpAny_pyIter_list hl (wpAny_newObj_type (hd := by size_fits) (wpAny_newFunctionEnv hcell (by intro z hz; simp at hz) (fun h₁ hns₁ hsb₁ => ?_) hkind))
  dsimp only at hns₁ hsb₁ ⊢
  have hlt : l < s₁.heap.objs.size := Heap.lt_size (N _ hm).1
  generalize hI : s₁.heap.objs.size = I at hsb₁ hns₁ ⊢
  generalize hH1 : s₁.heap.push { cls := .type "list_iterator", data := .fields #[.ref l, .int 0 0] } = H1 at hns₁ hsb₁ ⊢
  have hD1 : H1.objs.size = I + 1 := by rw [← hH1, Heap.size_push, hI]
  generalize hDe : H1.objs.size = D at hsb₁ hns₁ hD1 ⊢
  generalize hH2 : H1.push { cls := .type "list", dict := none, data := .seq ([] : List Value).toArray } = H2 at hns₁ hsb₁ ⊢
  have hC2 : H2.objs.size = I + 2 := by rw [← hH2, Heap.size_push, hDe, hD1]
  generalize hCe : H2.objs.size = C at hsb₁ hns₁ hC2 ⊢
  have fresh : ∀ b, I ≤ b → s₁.heap.get? b = none := fun b hb => Heap.get?_none_of_le (by rw [hI]; exact hb)
  have hHI := fresh I (Nat.le_refl _)
  have hHD := fresh D (by rw [hD1]; exact Nat.le_succ _)
  have hHC := fresh C (by rw [hC2]; exact Nat.le_add_right _ _)
  have hID : I ≠ D := by rw [hD1]; exact Nat.ne_of_lt (Nat.lt_succ_self _)
  have hIC : I ≠ C := by rw [hC2]; exact Nat.ne_of_lt (Nat.lt_succ_of_lt (Nat.lt_succ_self _))
  have hDC : D ≠ C := by rw [hD1, hC2]; exact Nat.ne_of_lt (Nat.lt_succ_self _)
  have u1 : ∀ b o, s₁.heap.get? b = some o → H1.get? b = some o := fun b o e => by rw [← hH1]; exact Heap.get?_push_of_some _ e
  have u2 : ∀ b o, H1.get? b = some o → H2.get? b = some o := fun b o e => by rw [← hH2]; exact Heap.get?_push_of_some _ e
  have u3 : ∀ b o, b ≠ C → H2.get? b = some o → h₁.get? b = some o := fun b o hb e => hsb₁.extBut b o hb (Heap.get?_push_of_some _ e)
  have eI : H1.get? I = some { cls := .type "list_iterator", data := .fields #[.ref l, .int 0 0] } := by rw [← hH1, ← hI]; exact Heap.get?_push_size _ rfl
  have eD : H2.get? D = some (LCg.lst []) := by rw [← hH2, ← hDe]; exact Heap.get?_push_size _ rfl
  have x0 : C2 s₁.heap h₁ I l D C 0 [] _ := ⟨fun b o e => u3 b o (fun q => by rw [q, hHC] at e; cases e) (u2 b o (u1 b o e)),
    ⟨_, u3 _ _ hIC (u2 _ _ eI), rfl, rfl⟩, u3 _ _ hDC eD, hns₁⟩
  have hL : s₁.heap.get? L ≠ none := by obtain ⟨o, _, _, e, _⟩ := F.ns; rw [e]; simp
  have hCL : C ≠ L := fun q => hL (q ▸ hHC)
  have hDL : D ≠ L := fun q => hL (q ▸ hHD)
  have none₀ : ∀ b, s₁.heap.get? b = none → h₀.get? b = none := fun b e => by
    cases q : h₀.get? b with
    | none => rfl
    | some o => rw [F.keep b o q] at e; cases e
  have newsC : ∀ {h : Heap} {i : Nat} {ys : List Value} {m' : Str → Option Value}, C2 s₁.heap h I l D C i ys m' → ∃ oC, LCg.NsObj oC m' ∧ Fr h₀ L h m ∧ News h₀ L h ((C, oC) :: news) := fun x => by
    obtain ⟨oC, e, hC⟩ := LCg.ns_obj x.ns
    refine ⟨oC, hC, F.keeps x.keep, fun p hp => ?_⟩
    rcases List.mem_cons.mp hp with rfl | hp
    · exact ⟨e, hCL, none₀ _ hHC⟩
    · exact N.grown x.keep p hp
  have loop : ∀ s₃ : Shared, s₃ = { s₁ with heap := h₁, toks := s₁.toks + ([] : List (Str × Value)).length } →
      codeAny (model prog w) A (.compLoop (lc2 elt iter iter2 x y px py scope pos) 0 (.ref I) (.ref D) (compEnvC scope cl C env)) (compPost (model prog w) A E use Q (.ref D) C) s₃ := by
    rintro s₃ rfl
    refine loop_out (fun k s' => ∃ i : Nat, ∃ h tk m' ys, s' = { s₁ with heap := h, toks := tk } ∧ i ≤ xs.length ∧ k = xs.length + 1 - i ∧ C2 s₁.heap h I l D C i ys m' ∧ IntsAre ys (pairs f nn (xs.take i)) ∧ ys.length = i * nn) ?_ (xs.length + 1)
      ⟨0, h₁, _, _, [], rfl, Nat.zero_le _, rfl, x0, by simpa [pairs] using IntsAre.nil, by simp⟩ (hs2 _)
    rintro k s' ⟨i, h, tk, m', ys, rfl, hi', rfl, x4, hy4, hl4⟩
    have hl' : h.IsList l vs.toArray := hl.at fun o e => x4.keep _ o e
    by_cases hlt' : i < xs.length
    · obtain ⟨t₁, hv⟩ := hi.get i xs[i] (by simp [hlt'])
      have hmem : xs[i] ∈ xs := List.getElem_mem hlt'
      refine wpAny_pyNext_list_item x4.it hl' (by simpa using hv) fun h5 hit5 hs5 => ?_
      have x5 := x4.next hs5 hit5 hHI (Ne.symm hID) (Ne.symm hIC)
      dsimp only
      refine wpAny_assign_Name (wpAny_storeName_local (lookup_relabel_local hxl) x5.ns (fun h6 hn6 hs6 => ?_) (by simp [compEnvC, relabel, hkind]))
      have x6 := x5.put hs6 hn6 hHC hIC hDC
      obtain ⟨oC, hoC, F6, N6⟩ := newsC x6
      refine wpAny_mono (hinner xs[i] C oC _ t₁ h6 _ _ hmem hoC (by simp) F6 N6) (fun z s7 h7 => ?_) fun _ _ e => e
      obtain ⟨⟨r, t, u, v, rfl, hr⟩, h8, tk8, rfl, hk8⟩ := h7
      have x8 := x6.keeps hk8
      have hln : ys.length + nn ≤ 1000 := by
        have : i * nn ≤ 64 * 10 := Nat.mul_le_mul (by omega) hnn
        omega
      refine wpAny_mono (inner_ints (s₁ := s₁) (R := fun r s' => match r with | .ok _ => ∃ m, m < xs.length + 1 - i ∧ ∃ i : Nat, ∃ h tk m' ys, s' = { s₁ with heap := h, toks := tk } ∧ i ≤ xs.length ∧ m = xs.length + 1 - i ∧ C2 s₁.heap h I l D C i ys m' ∧ IntsAre ys (pairs f nn (xs.take i)) ∧ ys.length = i * nn | .error e => cameBackBy (model prog w) A (compEnvC scope cl C env) (notedBy (model prog w) A (compEnvC scope cl C env) fun e s' => compPost (model prog w) A E use Q (.ref D) C (.error e) s') e s')
        f xs[i] hh hkind hyl hxy (by omega) hln hHI hHD hHC hDC hID hIC (fun b hb => ?_) ⟨h8, tk8, rfl⟩ x8 (tx := t₁) (by simp) hy4 hr ?_ ?_) (fun _ _ q => q) fun _ _ e => e
      · cases q : s₁.heap.get? b with
        | none => rfl
        | some o => exact absurd (Heap.lt_size (x8.keep b o q)) (Nat.not_lt.mpr hb)
      · intro j m₂ t₂ t₃ h9 tk9 ys9 E' hj x9 hx9 hy9
        obtain ⟨oC9, hoC9, F9, N9⟩ := newsC x9
        exact helt xs[i] j C oC9 m₂ t₂ t₃ h9 tk9 E' hmem hj hoC9 hx9 hy9 F9 N9
      · intro h9 tk9 m'' ys9 x9 hy9
        refine ⟨xs.length + 1 - (i + 1), by omega, i + 1, h9, tk9, m'', ys9, rfl, hlt', rfl, x9, ?_, ?_⟩
        · have e : xs.take (i + 1) = xs.take i ++ [xs[i]] := by rw [List.take_add_one]; simp [hlt']
          rw [e, pairs_snoc]; exact hy9
        · have e := hy9.length
          have e2 := hy4.length
          rw [List.length_append, List.length_map, List.length_range, ← e2] at e
          rw [e, hl4, Nat.add_mul, Nat.one_mul]
    · have e : i = xs.length := by omega
      subst e
      refine wpAny_pyNext_list_end hh x4.it hl' (by simp [← hi.length]) fun h5 hs5 => ?_
      have x5 := x4.but (b₀ := I) (fun b o hb e => hs5 b o hb e)
      have keep5 : ∀ b o, s₁.heap.get? b = some o → h5.get? b = some o := fun b o e => hs5 b o (fun q => by rw [q, hHI] at e; cases e) (x4.keep b o e)
      have acc5 := hs5 _ _ (Ne.symm hID) x4.acc
      rw [List.take_length] at hy4
      refine hdone D C h5 _ m' ys (F.keeps keep5) (fun p hp => ?_) (fun p hp => ⟨fun q => (by have := (N p hp).1; rw [q, hHD] at this; cases this), fun q => (by have := (N p hp).1; rw [q, hHC] at this; cases this)⟩) hCL hDL hDC (none₀ _ hHC) (none₀ _ hHD) (x4.ns.at' fun o e => hs5 _ o (Ne.symm hIC) e) hy4
      rcases List.mem_cons.mp hp with rfl | hp
      · exact ⟨acc5, hDL, none₀ _ hHD⟩
      · exact N.grown keep5 p hp
  exact codeAny_compStart_list (loop _ rfl) (wpAny_pyIter_listiter x0.it (loop _ rfl))

theorem comp2_assign {elt iter iter2 : Expr} {x y z : Str} {px py pz : Pos} {scope : Scope} {pos spos : Pos} {cl : List (Str × Addr)} {Q : Flow → Shared → Prop} (f : Int → Int → Int) (nn : Nat) (hLe : env.locals = L)
    (hsw : swapsWith (lc2 elt iter iter2 x y px py scope pos) (some (.Name z pz)) spos.line env = pure true)
    (hh : A.handled = none) (hclos : closureFor scope env = pure cl) (hcell : ∀ z ∈ scope.names, z.2 ≠ .cell) (hkind : scope.kind = .function)
    (hnames : ∀ z ∈ scope.names, z.2 = .local → scope.names.lookup z.1 = some .local) (hxl : scope.names.lookup x = some .local) (hyl : scope.names.lookup y = some .local) (hxy : x ≠ y) (hnn : nn ≤ 10)
    (hz : env.kindOf z = some .local) (hp : (env.scope.kind == .class || (env.scope.kind == .module && env.locals != env.globals)) = false)
    (h : wpAny (model prog w) A (eval iter env) (fun xv s₁ => ∃ l vs k xs news, xv = .ref l ∧ Fr h₀ L s₁.heap m ∧ News h₀ L s₁.heap news ∧ (l, lstObj vs k) ∈ news ∧ IntsAre vs xs ∧ xs.length ≤ 64 ∧
      (∀ a C oC m₂ t₁ h tk (E' : Value → Shared → Prop), a ∈ xs → LCg.NsObj oC m₂ → m₂ x = some (.int a t₁) → Fr h₀ L h m → News h₀ L h ((C, oC) :: news) →
        wpAny (model prog w) A (eval iter2 (compEnvC scope cl C env)) (fun z s' => (∃ r t u v, z = .ref r ∧ IsRange s'.heap r 0 (nn : Int) 1 t u v) ∧ Keeps { s₁ with heap := h, toks := tk } s') E' { s₁ with heap := h, toks := tk }) ∧
      (∀ a (j : Nat) C oC m₂ t₁ t₂ h tk (E' : Value → Shared → Prop), a ∈ xs → j < nn → LCg.NsObj oC m₂ → m₂ x = some (.int a t₁) → m₂ y = some (.int (j : Int) t₂) → Fr h₀ L h m → News h₀ L h ((C, oC) :: news) →
        wpAny (model prog w) A (eval elt (compEnvC scope cl C env)) (fun z s' => (∃ q, z = .int (f a j) q) ∧ Keeps { s₁ with heap := h, toks := tk } s') E' { s₁ with heap := h, toks := tk }) ∧
      (∀ D h tk ys, Fr h₀ L h (fun q => if q = z then some (.ref D) else m q) → News h₀ L h ((D, LCg.lst ys) :: news) → (∀ p ∈ news, p.1 ≠ D) → IntsAre ys (pairs f nn xs) → Q .next { s₁ with heap := h, toks := tk })) E s)
    (hs : ∀ z, foldedSetIterable iter env z = pure z := by intro _; rfl) (hs2 : ∀ env z, foldedSetIterable iter2 env z = pure z := by intro _ _; rfl) :
    wpAny (model prog w) A (exec (.Assign [.Name z pz] (lc2 elt iter iter2 x y px py scope pos) spos) env) Q E s := by
  subst hLe
  rw [exec_Assign_Name_used _ _ _ _ hsw]
  refine wpAny_bind (wpAny_standAt (wpAny_bind ?_))
  show wpAny _ A (do let _ ← comprehension (lc2 elt iter iter2 x y px py scope pos) scope env _ (newList []) false (eval iter env) (some (assign (.Name z pz) env))) _ _ s
  refine wpAny_bind (wpAny_mono (comp2_core (h₀ := h₀) (L := env.locals) (m := m) (Q := fun _ s' => Q .next s') (use := some (assign (.Name z pz) env)) f nn hh hclos hcell hkind hnames hxl hyl hxy hnn (wpAny_mono h (fun xv s₁ h₁ => ?_) fun _ _ e => e) hs hs2) (fun _ s' hq => wpAny_pure (wpAny_pure hq)) fun _ _ e => e)
  obtain ⟨l, vs, k, xs, news, rfl, F, N, hm, hi, hlen, hinner, helt, hdone⟩ := h₁
  refine ⟨l, vs, k, xs, news, rfl, F, N, hm, hi, hlen, hinner, helt, ?_⟩
  intro D C h tk m' ys F' N' off hCL hDL hDC hC₀ hD₀ hn hy
  show wpAny _ A (assign (.Name z pz) env (.ref D)) _ _ _
  refine wpAny_assign_Name (wpAny_storeName_local hz F'.ns (fun h₂ hn₂ hs₂ => ?_) hp)
  have hL₀ : h₀.get? env.locals = none := Heap.get?_none_of_le F'.above
  have F₂ : Fr h₀ env.locals h₂ (fun q => if q = z then some (.ref D) else m q) := ⟨hn₂, fun b o e => hs₂.extBut b o (fun q => by rw [q, hL₀] at e; cases e) (F'.keep b o e), F'.above⟩
  refine ⟨m', hn.sameBut hs₂ hCL, fun h3 hs3 => hdone D h3 _ ys (F₂.change hs3 hCL hC₀) (fun p hp => ?_) (fun p hp => (off p hp).1) hy⟩
  have z2 : h₂.get? p.1 = some p.2 := hs₂.extBut _ _ (N' p hp).2.1 (N' p hp).1
  refine ⟨hs3.extBut _ _ ?_ z2, (N' p hp).2⟩
  rcases List.mem_cons.mp hp with rfl | hp
  · exact hDC
  · exact (off p hp).2
end
end Mine
namespace Mine
local macro_rules | `(tactic| walk_at "exec While Compare") => `(tactic| (k_here; k_dflt (refine Mine.whl_halt 12 ?_)))
/-- between the turns of the search -/
def LdvI (s : Shared) (g : Heap) (L' : Addr) (news : Led) (n : Int) (tn : Tok) (r : Int) (k : Nat) (s' : Shared) : Prop :=
  ∃ (f : Int), ∃ tf m h tk, s' = { s with heap := h, toks := tk } ∧ m (Str.ofString "found") = some (.int f tf) ∧ m (Str.ofString "n") = some (.int n tn) ∧ Fr g L' h m ∧ News g L' h news ∧ 1 ≤ k ∧ 8 ≤ f + k ∧ 2 ≤ f ∧ f ≤ 60 ∧ ldv k n f = r
theorem LdvI.intro {s : Shared} {g h : Heap} {L' : Addr} {news : Led} {n r : Int} {tn tf : Tok} {k tk : Nat} {m : Str → Option Value} (f : Int) (F : Fr g L' h m) (N : News g L' h news) (hf : m (Str.ofString "found") = some (.int f tf)) (hn : m (Str.ofString "n") = some (.int n tn))
    (h1 : 1 ≤ k) (h2 : 8 ≤ f + k) (h3 : 2 ≤ f) (h4 : f ≤ 60) (hv : ldv k n f = r) : LdvI s g L' news n tn r k { s with heap := h, toks := tk } := ⟨f, tf, m, h, tk, rfl, hf, hn, F, N, h1, h2, h3, h4, hv⟩
theorem ldv_fn (w : World) (mean : ExcName → Option Value) (mg mb : Str → Option Value) (n b : Int) (tn tb : Tok) (hn1 : 1 ≤ n) (hn2 : n ≤ 40) (hb1 : 2 ≤ b) (hb2 : b ≤ 60) :
    Fn Challenge.rw_sa0083_01.row.prog w (hd.heap_39 w.params) hd.view_39 (looseW hd.view_39 []) mean mg mb 55 1 [.int n tn, .int b tb] (fun _ => True) (fun _ r => ∃ t, r = .int (ldv 12 n b) t) := by
  walk_at "mine_enter0"
  intro dp un gd cn cs Lc a ccd cl outer base g L' h₁ tk news s B F N X T hks hpre hd hu
  (try dsimp only); (try k_fold)
  k_steps
  refine Halt.go ?_
  rename Fr _ _ _ _ => lF
  rename News _ _ _ _ => lN
  refine while_ind (LdvI s g L' news n tn (ldv 12 n b)) (by first | passes_own | with_unfolding_all passes_own) ?_ ?_ 12 _ (LdvI.intro b lF lN (by with_unfolding_all rfl) (by with_unfolding_all rfl) (by omega) (by omega) hb1 hb2 rfl)
  · clear lF lN
    rintro k s' ⟨f, tf, m, h, tk, rfl, hf, hn, F', N', hk, hfk, hf1, hf2, hv⟩
    rw [frame_two hf hn] at F'
    (try dsimp only); (try k_fold)
    k_steps
    by_cases hc : f * f ≤ n
    · refine WhlIf.yes (decide_eq_true hc) ?_
      have hf6 : f ≤ 6 := by
        by_cases h7 : 7 ≤ f
        · have := Int.mul_le_mul h7 h7 (by omega) (by omega)
          omega
        · omega
      (try dsimp only); (try k_fold)
      k_steps
      · have e : ldv (k + 1) n f = f := by
          unfold ldv; rw [if_pos hc, if_pos (by assumption)]
        show FnEnd g news (fun _ r => ∃ t, r = .int (ldv 12 n b) t) s _ _
        exact fn_old (by k_asm) (by k_asm) (by walk_at "mine_sub") ⟨tf, by rw [← hv, e]⟩
      · rename Fr _ _ _ _ => eF
        rename News _ _ _ _ => eN
        refine LdvI.intro (f + 1) eF eN (by with_unfolding_all rfl) (by with_unfolding_all rfl) (by omega) (by omega) (by omega) (by omega) ?_
        rw [← hv]
        conv => rhs; unfold ldv
        rw [if_pos hc, if_neg (by assumption), if_pos (by assumption)]
      · rename Fr _ _ _ _ => eF
        rename News _ _ _ _ => eN
        refine LdvI.intro (f + 2) eF eN (by with_unfolding_all rfl) (by with_unfolding_all rfl) (by omega) (by omega) (by omega) (by omega) ?_
        rw [← hv]
        conv => rhs; unfold ldv
        rw [if_pos hc, if_neg (by assumption), if_neg (by assumption)]
    · refine WhlIf.no (decide_eq_false hc) ?_
      (try dsimp only); (try k_fold)
      k_steps
      have e : ldv (k + 1) n f = n := by
        unfold ldv; rw [if_neg hc]
      show FnEnd g news (fun _ r => ∃ t, r = .int (ldv 12 n b) t) s _ _
      exact fn_old (by k_asm) (by k_asm) (by walk_at "mine_sub") ⟨tn, by rw [← hv, e]⟩
  · rintro s' ⟨f, tf, m, h, tk, rfl, hf, hn, F', N', hk, _⟩
    omega
end Mine
local macro_rules | `(tactic| walk_at "call ref") => `(tactic| (k_here; k_dflt (refine' Mine.fn_use (Mine.ldv_fn _ _ _ _ _ _ _ _ ?hn1 ?hn2 ?hb1 ?hb2) ?B ?F ?X ?N ?T ?K ?P ?D ?U ?_; (case hn1 => omega); (case hn2 => omega); (case hb1 => omega); (case hb2 => omega); walk_at "mine_call"); intro r9 tl9 h9 tk9 F9 N9 hne9 ho9; (have N9b := Mine.drop_app N9); clear N9 hne9; (obtain ⟨t9, e9⟩ := ho9); subst e9; (try k_sweep); (try dsimp only); (try k_fold)))
namespace Mine
local macro_rules | `(tactic| walk_at "exec While Compare") => `(tactic| (k_here; k_dflt (refine Mine.whl_halt 6 ?_)))
local macro_rules | `(tactic| walk_at "call builtin:list.append") => `(tactic| (k_here; k_dflt (refine Mine.halt_app ?_)))
/-- between the turns of the outer loop -/
def PfI (s : Shared) (g : Heap) (L' : Addr) (news : Led) (r : List (Int × Int)) (k : Nat) (s' : Shared) : Prop :=
  ∃ (n1 p : Int), ∃ tn tp D vs c tl ps m h tk, s' = { s with heap := h, toks := tk } ∧ m (Str.ofString "found") = some (.ref D) ∧ m (Str.ofString "prime") = some (.int p tp) ∧ m (Str.ofString "n") = some (.int n1 tn) ∧
    Fr g L' h m ∧ News g L' h ((D, lstObj vs c) :: (tl ++ news)) ∧ (∀ q ∈ tl ++ news, q.1 ≠ D) ∧ NewOff tl news ∧ PairsA tl vs ps ∧ vs.length + k ≤ 6 ∧ 1 ≤ n1 ∧ n1 < 2 ^ k ∧ n1 ≤ 40 ∧ 2 ≤ p ∧ p ≤ 60 ∧ ps ++ pf k n1 p = r
theorem PfI.intro {s : Shared} {g h : Heap} {L' D : Addr} {news tl : Led} {n1 p : Int} {tn tp : Tok} {vs : List Value} {c k tk : Nat} {ps r : List (Int × Int)} {m : Str → Option Value}
    (F : Fr g L' h m) (N : News g L' h ((D, lstObj vs c) :: (tl ++ news))) (hD : ∀ q ∈ tl ++ news, q.1 ≠ D) (hno : NewOff tl news) (hP : PairsA tl vs ps) (hf : m (Str.ofString "found") = some (.ref D)) (hp : m (Str.ofString "prime") = some (.int p tp)) (hn : m (Str.ofString "n") = some (.int n1 tn))
    (h1 : vs.length + k ≤ 6) (h2 : 1 ≤ n1) (h3 : n1 < 2 ^ k) (h4 : n1 ≤ 40) (h5 : 2 ≤ p) (h6 : p ≤ 60) (hv : ps ++ pf k n1 p = r) : PfI s g L' news r k { s with heap := h, toks := tk } :=
  ⟨n1, p, tn, tp, D, vs, c, tl, ps, m, h, tk, rfl, hf, hp, hn, F, N, hD, hno, hP, h1, h2, h3, h4, h5, h6, hv⟩
/-- between the turns of the inner loop -/
def DvI (s : Shared) (g : Heap) (L' : Addr) (led : Led) (D : Addr) (q : Int) (r : Int × Int) (k : Nat) (s' : Shared) : Prop :=
  ∃ (n2 e : Int), ∃ tn te tq m h tk, s' = { s with heap := h, toks := tk } ∧ m (Str.ofString "found") = some (.ref D) ∧ m (Str.ofString "prime") = some (.int q tq) ∧ m (Str.ofString "n") = some (.int n2 tn) ∧ m (Str.ofString "many") = some (.int e te) ∧
    Fr g L' h m ∧ News g L' h led ∧ 1 ≤ n2 ∧ n2 ≤ 40 ∧ n2 < 2 ^ k ∧ 0 ≤ e ∧ e + k ≤ 6 ∧ dv k n2 q e = r
theorem DvI.intro {s : Shared} {g h : Heap} {L' D : Addr} {led : Led} {n2 e q : Int} {tn te tq : Tok} {k tk : Nat} {r : Int × Int} {m : Str → Option Value}
    (F : Fr g L' h m) (N : News g L' h led) (hf : m (Str.ofString "found") = some (.ref D)) (hp : m (Str.ofString "prime") = some (.int q tq)) (hn : m (Str.ofString "n") = some (.int n2 tn)) (he : m (Str.ofString "many") = some (.int e te))
    (h1 : 1 ≤ n2) (h2 : n2 ≤ 40) (h3 : n2 < 2 ^ k) (h4 : 0 ≤ e) (h5 : e + k ≤ 6) (hv : dv k n2 q e = r) : DvI s g L' led D q r k { s with heap := h, toks := tk } :=
  ⟨n2, e, tn, te, tq, m, h, tk, rfl, hf, hp, hn, he, F, N, h1, h2, h3, h4, h5, hv⟩
theorem pf_fn (w : World) (mean : ExcName → Option Value) (mg mb : Str → Option Value) (n : Int) (tn : Tok) (hn1 : 1 ≤ n) (hn2 : n ≤ 40) :
    Fn Challenge.rw_sa0083_01.row.prog w (hd.heap_39 w.params) hd.view_39 (looseW hd.view_39 []) mean mg mb 62 3 [.int n tn] (fun _ => True) (fun led r => ∃ l vs k, r = .ref l ∧ (l, lstObj vs k) ∈ led ∧ PairsA led vs (pf 6 n 2)) := by
  walk_at "mine_enter0"
  intro dp un gd cn cs Lc a ccd cl outer base g L' h₁ tk news s B F N X T hks hpre hd hu
  (try dsimp only); (try k_fold)
  k_steps
  refine Halt.go ?_
  rename Fr _ _ _ _ => lF
  rename News _ _ _ _ => lN
  rename ∀ (p : Addr × Obj), p ∈ news → _ => l0
  refine while_ind (PfI s g L' news (pf 6 n 2)) (by first | passes_own | with_unfolding_all passes_own) ?_ ?_ 6 _ (PfI.intro (vs := []) (tl := []) (ps := []) lF (c := 0) (fun p hp => lN p (.tail _ hp)) (fun q hq => Nat.ne_of_lt (l0 q hq)) .nil .nil (by with_unfolding_all rfl) (by with_unfolding_all rfl) (by with_unfolding_all rfl) (by decide) hn1 (by omega) hn2 (by omega) (by omega) rfl)
  · clear lF lN
    rintro k s' ⟨n1, p, tn, tp, D, vs, c, tl, ps, m, h, tk, rfl, hf, hp, hn, F', N', hD, hno, hP, b1, b2, b3, b4, b5, b6, hv⟩
    rw [frame_three hf hp hn] at F'
    (try dsimp only); (try k_fold)
    k_steps
    by_cases hc : n1 > 1
    · refine WhlIf.yes (decide_eq_true hc) ?_
      have hq := ldv_facts (by omega) b4 12 p b5
      (try dsimp only); (try k_fold)
      k_steps
      refine Halt.go ?_
      rename Fr _ _ _ _ => iF
      rename News _ _ _ _ => iN
      refine while_ind (DvI s g L' ((D, lstObj vs c) :: (tl ++ news)) D (ldv 12 n1 p) (dv 6 n1 (ldv 12 n1 p) 0)) (by first | passes_own | with_unfolding_all passes_own) ?_ ?_ 6 _ (DvI.intro iF (fun p hp => iN p (.tail _ hp)) (by with_unfolding_all rfl) (by with_unfolding_all rfl) (by with_unfolding_all rfl) (by with_unfolding_all rfl) b2 b4 (by omega) (by omega) (by omega) rfl)
      · clear iF iN
        rintro k2 s' ⟨n2, e, tn2, te, tq, m2, h2, tk2, rfl, hf2, hp2, hn2, he2, F', N', d1, d2, d3, d4, d5, hv2⟩
        rw [frame_four hf2 hp2 hn2 he2] at F'
        (try dsimp only); (try k_fold)
        k_steps
        by_cases hd : n2.fmod (ldv 12 n1 p) = 0
        · refine WhlIf.yes (by simp [hd]) ?_
          have hh := half d1 hq.1 hd
          (try dsimp only); (try k_fold)
          k_steps
          rename Fr _ _ _ _ => eF
          rename News _ _ _ _ => eN
          refine DvI.intro eF (cb_drop eN (by walk_at "mine_sub")) (by with_unfolding_all rfl) (by with_unfolding_all rfl) (by with_unfolding_all rfl) (by with_unfolding_all rfl) hh.1 (by omega) (by rw [Int.pow_succ] at d3; omega) (by omega) (by omega) ?_
          rw [← hv2]
          conv => rhs; unfold dv
          rw [if_pos hd]
        · refine WhlIf.no (by simp [hd]) ?_
          (try dsimp only); (try k_fold)
          k_steps
          refine Halt.go ?_
          have hvd : dv 6 n1 (ldv 12 n1 p) 0 = (n2, e) := by
            rw [← hv2]
            unfold dv
            rw [if_neg hd]
          have hh := dv_half b2 hq.1 hq.2.2 5
          rw [hvd] at hh
          rename Fr _ _ _ _ => eF
          rename News _ _ _ _ => eN
          rename _ ∧ AllLt _ _ => l1
          rename Addr => T2
          have zD := eN _ (.tail _ (.head _))
          have hTD : T2 ≠ D := Nat.ne_of_gt l1.1
          have hTn : ∀ p ∈ tl ++ news, p.1 < T2 := tb_ltOf l1.2
          refine append_at (n := c) zD.1 (fun h5 hs5 hD5 => ?_) (by rw [List.size_toArray, PySem.sizeLine_eq]; omega)
          have F5 := eF.change hs5 zD.2.1 zD.2.2
          have N5 := push_pair eN hs5 hD5 hD hTD
          clear eF eN zD
          (try dsimp only); (try k_fold)
          k_steps
          · rename Fr _ _ _ _ => eF
            rename News _ _ _ _ => eN
            refine PfI.intro eF eN ?_ (hno.cons hTn (by walk_at "mine_sub")) ((hP.mono fun _ h => .tail _ h).snoc (.head _)) (by with_unfolding_all rfl) (by with_unfolding_all rfl) (by with_unfolding_all rfl) (by rw [List.length_append, List.length_singleton]; omega) hh.1 (by rw [Int.pow_succ] at b3; omega) (by omega) (by omega) (by omega) ?_
            · intro q hq
              rcases List.mem_cons.mp (show q ∈ _ :: (tl ++ news) from hq) with rfl | hq
              · exact hTD
              · exact hD q hq
            · rw [← hv, List.append_assoc]
              conv => rhs; unfold pf
              rw [if_pos hc, hvd, if_pos (by assumption)]
              rfl
          · rename Fr _ _ _ _ => eF
            rename News _ _ _ _ => eN
            refine PfI.intro eF eN ?_ (hno.cons hTn (by walk_at "mine_sub")) ((hP.mono fun _ h => .tail _ h).snoc (.head _)) (by with_unfolding_all rfl) (by with_unfolding_all rfl) (by with_unfolding_all rfl) (by rw [List.length_append, List.length_singleton]; omega) hh.1 (by rw [Int.pow_succ] at b3; omega) (by omega) (by omega) (by omega) ?_
            · intro q hq
              rcases List.mem_cons.mp (show q ∈ _ :: (tl ++ news) from hq) with rfl | hq
              · exact hTD
              · exact hD q hq
            · rw [← hv, List.append_assoc]
              conv => rhs; unfold pf
              rw [if_pos hc, hvd, if_neg (by assumption)]
              rfl
      · rintro s' ⟨n2, e, tn2, te, tq, m2, h2, tk2, rfl, hf2, hp2, hn2, he2, F', N', d1, d2, d3, d4, d5, hv2⟩
        simp at d3
        omega
    · refine WhlIf.no (decide_eq_false hc) ?_
      (try dsimp only); (try k_fold)
      k_steps
      have e : ps = pf 6 n 2 := by
        rw [← hv]
        unfold pf
        rw [if_neg hc, List.append_nil]
      show FnEnd g news (fun led r => ∃ l vs k, r = .ref l ∧ (l, lstObj vs k) ∈ led ∧ PairsA led vs (pf 6 n 2)) s _ _
      rw [← e]
      exact fn_end ((D, lstObj vs c) :: tl) (by k_asm) (by k_asm) (fun q hq p hp => (List.mem_cons.mp hq).elim (fun e => by subst e; exact hD p (List.mem_append.mpr (.inr hp))) fun h => hno q h p hp) ⟨D, vs, c, rfl, .head _, hP.mono fun _ h => .tail _ h⟩
  · rintro s' ⟨n1, p, tn, tp, D, vs, c, tl, ps, m, h, tk, rfl, hf, hp, hn, F', N', hD, hno, hP, b1, b2, b3, b4, b5, b6, hv⟩
    simp at b3
    omega
end Mine
namespace Mine
section
variable {prog : Program} {w : World} {A : Around} {E : Value → Shared → Prop} {s : Shared} {h₀ : Heap} {L : Addr} {m : Str → Option Value} {cn : Str} {cs : Scope} {a : Addr} {ccd : Value} {cl : List (Str × Addr)} {body : List Stmt} {Q : Flow → Shared → Prop} {env : Env}

theorem ft_halt {elts : List Expr} {kk} {tp pos : Pos} {iter : Expr}
    (h : wpAny (model prog w) A (eval iter env) (fun x s₁ => Halt (wpAny (model prog w) A (pyIter x) (fun it s₂ =>
      codeAny (model prog w) A (.forLoop (.Tuple elts kk tp) it body [] env) (fun r s' => match r with | .ok f => Q f s' | .error e => cameBackBy (model prog w) A env E e s') s₂) E s₁)) E s)
    (hs : ∀ x, foldedSetIterable iter env x = pure x := by intro _; rfl) : wpAny (model prog w) A (exec (.For (.Tuple elts kk tp) iter body [] pos) env) Q E s := wpAny_For h hs

def CellsAt (h₀ : Heap) (L : Addr) (c1 c2 : Addr) (r : Led) (v1 v2 : Option Value) (h : Heap) : Prop :=
  ∃ o1 o2, o1.data = .cell v1 ∧ o2.data = .cell v2 ∧ News h₀ L h ((c1, o1) :: (c2, o2) :: r)
def FlEnd (h₀ : Heap) (L : Addr) (s₁ : Shared) (I : Addr) (oI : Obj) (c1 c2 : Addr) (J : (Str → Option Value) → Led → Prop) (s' : Shared) : Prop :=
  ∃ h tk m r v1 v2, s' = { s₁ with heap := h, toks := tk } ∧ Fr h₀ L h m ∧ CellsAt h₀ L c1 c2 ((I, oI) :: r) v1 v2 h ∧ (∀ q ∈ r, q.1 ≠ I ∧ q.1 ≠ c1 ∧ q.1 ≠ c2) ∧ J m r
theorem FlEnd.intro {s₁ : Shared} {I c1 c2 : Addr} {oI o1 o2 : Obj} {J : (Str → Option Value) → Led → Prop} {h : Heap} {tk : Nat} {r : Led} {v1 v2 : Option Value} (F : Fr h₀ L h m) (N : News h₀ L h ((I, oI) :: (c1, o1) :: (c2, o2) :: r)) (d1 : o1.data = .cell v1) (d2 : o2.data = .cell v2)
    (off : ∀ q ∈ r, q.1 ≠ I ∧ q.1 ≠ c1 ∧ q.1 ≠ c2) (hJ : J m r) : FlEnd h₀ L s₁ I oI c1 c2 J { s₁ with heap := h, toks := tk } :=
  ⟨h, tk, m, r, v1, v2, rfl, F, ⟨o1, o2, d1, d2, fun p hp => N p (by simp only [List.mem_cons] at hp ⊢; rcases hp with h | h | h | h <;> simp [h])⟩, off, hJ⟩
def FlPost (J : Shared → Prop) (Q : Flow → Shared → Prop) (f : Flow) (s : Shared) : Prop :=
  match f with
  | .next => J s
  | .cont => J s
  | .brk => Q .next s
  | .ret v => Q (.ret v) s

theorem PairsA.length {news : Led} : ∀ {vs : List Value} {ps : List (Int × Int)}, PairsA news vs ps → vs.length = ps.length
  | _, _, .nil => rfl
  | _, _, .cons _ t => by rw [List.length_cons, List.length_cons, t.length]
theorem PairsA.get {news : Led} : ∀ {vs : List Value} {ps : List (Int × Int)}, PairsA news vs ps → ∀ i, i < ps.length → ∃ T p e t1 t2 k, vs[i]? = some (.ref T) ∧ ps[i]? = some (p, e) ∧ (T, pairObj p e t1 t2 k) ∈ news
  | _, _, .nil, i, h => absurd h (Nat.not_lt_zero _)
  | _, _, .cons hm t, 0, _ => ⟨_, _, _, _, _, _, rfl, rfl, hm⟩
  | _, _, .cons hm t, i + 1, h => t.get i (Nat.lt_of_succ_lt_succ h)
theorem for_pairs {x y : Str} {px py tp : Pos} {kk} {c1 c2 l : Addr} {k : Nat} {vs : List Value} {ps : List (Int × Int)} {r₀ : Led} {v1 v2 : Option Value} (J : Nat → (Str → Option Value) → Led → Prop)
    (hh : A.handled = none) (hE : PassesOwn (model prog w) A (envX cn cs L a ccd cl) E) (hk : cs.kind = .function)
    (hx : (envX cn cs L a ccd cl).kindOf x = some .cell) (hy : (envX cn cs L a ccd cl).kindOf y = some .cell) (hcx : cl.lookup x = some c1) (hcy : cl.lookup y = some c2) (hc : c1 ≠ c2)
    (F : Fr h₀ L s.heap m) (N : CellsAt h₀ L c1 c2 r₀ v1 v2 s.heap) (hJ : J 0 m r₀)
    (hl : ∀ i m r, J i m r → (l, lstObj vs k) ∈ r ∧ PairsA r vs ps) (hoff : ∀ q ∈ r₀, q.1 ≠ c1 ∧ q.1 ≠ c2)
    (turn : ∀ i p e m r o1 o2 t1 t2 h tk I oI, ps[i]? = some (p, e) → J i m r → o1.data = .cell (some (.int p t1)) → o2.data = .cell (some (.int e t2)) → Fr h₀ L h m → News h₀ L h ((I, oI) :: (c1, o1) :: (c2, o2) :: r) → (∀ q ∈ r, q.1 ≠ I ∧ q.1 ≠ c1 ∧ q.1 ≠ c2) → I ≠ c1 → I ≠ c2 →
      wpAny (model prog w) A (execs body (envX cn cs L a ccd cl)) (FlPost (FlEnd h₀ L { s with heap := h, toks := tk } I oI c1 c2 (J (i + 1))) Q) E { s with heap := h, toks := tk })
    (done : ∀ m r h tk v1 v2, J ps.length m r → Fr h₀ L h m → CellsAt h₀ L c1 c2 r v1 v2 h → (∀ q ∈ r, q.1 ≠ c1 ∧ q.1 ≠ c2) → Q .next { s with heap := h, toks := tk }) :
    wpAny (model prog w) A (pyIter (.ref l)) (fun it s₂ => codeAny (model prog w) A (.forLoop (.Tuple [.Name x px, .Name y py] kk tp) it body [] (envX cn cs L a ccd cl)) (fun r s' => match r with | .ok f => Q f s' | .error e => cameBackBy (model prog w) A (envX cn cs L a ccd cl) E e s') s₂) E s := by
  have lenP : vs.length = ps.length := (hl 0 m r₀ hJ).2.length
  obtain ⟨o1, o2, d1, d2, N⟩ := N
  have hl0 := (hl 0 m r₀ hJ).1
  have hL0 : s.heap.IsList l vs.toArray := ⟨_, (N _ (.tail _ (.tail _ hl0))).1, rfl, _, rfl⟩
  refine wpAny_pyIter_list hL0 ?_
  generalize hI : s.heap.objs.size = I
  have hIn : s.heap.get? I = none := Heap.get?_none_of_le (by rw [hI]; exact Nat.le_refl _)
  have nI : ∀ b o, s.heap.get? b = some o → b ≠ I := fun b o e q => by rw [q, hIn] at e; cases e
  have hI₀ : h₀.get? I = none := by
    cases q : h₀.get? I with
    | none => rfl
    | some o => rw [F.keep _ o q] at hIn; cases hIn
  have hLI : L ≠ I := by obtain ⟨o, _, _, e, _⟩ := F.ns; exact nI _ _ e
  have hc1I : c1 ≠ I := nI _ _ (N _ (.head _)).1
  have hc2I : c2 ≠ I := nI _ _ (N _ (.tail _ (.head _))).1
  refine codeAny_forLoop_any (fun kk s' => ∃ i : Nat, ∃ h tk m r v1 v2, s' = { s with heap := h, toks := tk } ∧ i ≤ ps.length ∧ kk = ps.length + 1 - i ∧ h.IsListIter I l i ∧ Fr h₀ L h m ∧ CellsAt h₀ L c1 c2 r v1 v2 h ∧ (∀ q ∈ r, q.1 ≠ I ∧ q.1 ≠ c1 ∧ q.1 ≠ c2) ∧ J i m r) ?_ (ps.length + 1)
    ⟨0, _, _, m, r₀, v1, v2, rfl, Nat.zero_le _, rfl, ⟨_, by rw [← hI]; exact Heap.get?_push_size _ rfl, rfl, rfl⟩, F.push _, ⟨o1, o2, d1, d2, N.grown fun b o e => Heap.get?_push_of_some _ e⟩, fun q hq => ⟨nI _ _ (N q (.tail _ (.tail _ hq))).1, hoff q hq⟩, hJ⟩
  rintro kk' s' ⟨i, h, tk, m₁, r, v1', v2', rfl, hi, rfl, hit, F₁, ⟨o1', o2', d1', d2', N₁⟩, off, hJ₁⟩
  obtain ⟨hl₁, hP₁⟩ := hl i m₁ r hJ₁
  have hL₁ : h.IsList l vs.toArray := ⟨_, (N₁ _ (.tail _ (.tail _ hl₁))).1, rfl, _, rfl⟩
  by_cases hlt : i < ps.length
  · obtain ⟨T, p, e, t1, t2, kT, hv, hp, hT⟩ := hP₁.get i hlt
    refine wpAny_pyNext_list_item hit hL₁ (by simpa using hv) fun h5 hit5 hs5 => ?_
    dsimp only
    have N5 : News h₀ L h5 ((c1, o1') :: (c2, o2') :: r) := fun q hq => by
      have z := N₁ q hq
      refine ⟨hs5.extBut _ _ ?_ z.1, z.2⟩
      rcases List.mem_cons.mp hq with rfl | hq
      · exact hc1I
      · rcases List.mem_cons.mp hq with rfl | hq
        · exact hc2I
        · exact (off q hq).1
    have F5 : Fr h₀ L h5 m₁ := F₁.change hs5 (Ne.symm hLI) hI₀
    refine wpAny_letOwnedTupleGo_listiter hit5 ?_
    obtain ⟨oI, eI, cI, dI⟩ := hit5
    have N5I : News h₀ L h5 ((I, oI) :: (c1, o1') :: (c2, o2') :: r) := fun q hq => by
      rcases List.mem_cons.mp hq with rfl | hq
      · exact ⟨eI, Ne.symm hLI, hI₀⟩
      · exact N5 q hq
    refine unpackN_ F5 N5I ⟨_, (N5 _ (.tail _ (.tail _ hT))).1, rfl, _, rfl⟩ hh rfl rfl (fun h6 F6 N6 => ?_)
    show wpAny _ A (assignInOrder [assign (.Name x px) (envX cn cs L a ccd cl), assign (.Name y py) (envX cn cs L a ccd cl)] [.int p t1, .int e t2]) _ _ _
    refine assignInOrder_cons (wpAny_assign_Name ?_)
    refine storeX_C F6 N6 hcx (.tail (Ne.symm hc1I) (.head fun q hq => ?_)) d1' (fun h7 o7 F7 N7 d7 => ?_) hk hx
    · rcases List.mem_cons.mp hq with rfl | hq
      · exact Ne.symm hc
      · exact (off q hq).2.1
    refine assignInOrder_cons (wpAny_assign_Name ?_)
    refine storeX_C F7 N7 hcy (.tail (Ne.symm hc2I) (.tail hc (.head fun q hq => (off q hq).2.2))) d2' (fun h8 o8 F8 N8 d8 => ?_) hk hy
    refine assignInOrder_nil ?_
    refine wpAny_mono (turn i p e m₁ r o7 o8 t1 t2 h8 _ I oI hp hJ₁ d7 d8 F8 N8 off (Ne.symm hc1I) (Ne.symm hc2I)) (fun f s9 h9 => ?_) hE
    have fin : FlEnd h₀ L { s with heap := h8, toks := tk } I oI c1 c2 (J (i + 1)) s9 → ∃ m, m < ps.length + 1 - i ∧ ∃ i : Nat, ∃ h tk m_1 r v1 v2, s9 = { s with heap := h, toks := tk } ∧ i ≤ ps.length ∧ m = ps.length + 1 - i ∧ h.IsListIter I l i ∧ Fr h₀ L h m_1 ∧ CellsAt h₀ L c1 c2 r v1 v2 h ∧ (∀ q ∈ r, q.1 ≠ I ∧ q.1 ≠ c1 ∧ q.1 ≠ c2) ∧ J i m_1 r := by
      rintro ⟨hx9, tk9, m9, r9, w1, w2, rfl, F9, ⟨p1, p2, e1, e2, N9⟩, off9, hJ9⟩
      refine ⟨ps.length + 1 - (i + 1), by omega, i + 1, hx9, tk9, m9, r9, w1, w2, rfl, hlt, rfl, ⟨oI, (N9 (I, oI) (.tail _ (.tail _ (.head _)))).1, cI, dI⟩, F9, ⟨p1, p2, e1, e2, fun q hq => N9 q ?_⟩, off9, hJ9⟩
      simp only [List.mem_cons] at hq ⊢
      rcases hq with h | h | h <;> simp [h]
    cases f with
    | next => exact fin h9
    | cont => exact fin h9
    | brk => exact h9
    | ret v => exact h9
  · have e : i = ps.length := by omega
    subst e
    refine wpAny_pyNext_list_end hh hit hL₁ (by simp [lenP]) fun h5 hs5 => ?_
    refine wpAny_pure ?_
    refine done m₁ r h5 tk v1' v2' hJ₁ ⟨F₁.ns.at' fun o e => hs5 _ o hLI e, fun b o e => hs5 b o (fun q => by rw [q, hI₀] at e; cases e) (F₁.keep b o e), F₁.above⟩ ⟨o1', o2', d1', d2', fun q hq => ?_⟩ fun q hq => ⟨(off q hq).2.1, (off q hq).2.2⟩
    have z := N₁ q hq
    refine ⟨hs5 _ _ ?_ z.1, z.2⟩
    rcases List.mem_cons.mp hq with rfl | hq
    · exact hc1I
    · rcases List.mem_cons.mp hq with rfl | hq
      · exact hc2I
      · exact (off q hq).1
end
end Mine
local macro_rules | `(tactic| walk_at "call ref") => `(tactic| (k_here; k_dflt (refine' Mine.fn_use (Mine.pf_fn _ _ _ _ _ _ ?hn1 ?hn2) ?B ?F ?X ?N ?T ?K ?P ?D ?U ?_; (case hn1 => omega); (case hn2 => omega); walk_at "mine_call"); intro r9 tl9 h9 tk9 F9 N9 hne9 ho9; (obtain ⟨l9, vs9, k9, e9, m9, P9⟩ := ho9); subst e9; (try k_sweep); (try dsimp only); (try k_fold)))
local macro_rules | `(tactic| walk_at "mine_none") => `(tactic| fail)
namespace Mine
theorem pow_bd0 {p : Int} (h0 : 0 ≤ p) (h1 : p ≤ 40) : ∀ j : Nat, 0 ≤ p ^ j ∧ p ^ j ≤ (40 : Int) ^ j
  | 0 => ⟨by rw [Int.pow_zero]; decide, by rw [Int.pow_zero, Int.pow_zero]; decide⟩
  | j + 1 => by
    obtain ⟨a, b⟩ := pow_bd0 h0 h1 j
    rw [Int.pow_succ, Int.pow_succ]
    exact ⟨Int.mul_nonneg a h0, Int.mul_le_mul b h1 h0 (Int.le_trans a b)⟩
theorem pow_bd {p : Int} (h0 : 0 ≤ p) (h1 : p ≤ 40) (j : Nat) (hj : j ≤ 6) : 0 ≤ p ^ ((j : Int)).toNat ∧ p ^ ((j : Int)).toNat ≤ 4096000000 := by
  rw [Int.toNat_natCast]
  refine ⟨(pow_bd0 h0 h1 j).1, Int.le_trans (pow_bd0 h0 h1 j).2 ?_⟩
  have : j = 0 ∨ j = 1 ∨ j = 2 ∨ j = 3 ∨ j = 4 ∨ j = 5 ∨ j = 6 := by omega
  rcases this with h | h | h | h | h | h | h <;> subst h <;> decide
local macro_rules | `(tactic| walk_at "exec For Tuple Call cons nil") => `(tactic| (k_here; k_dflt (refine Mine.ft_halt ?_)))
theorem div_fn (w : World) (mean : ExcName → Option Value) (mg mb : Str → Option Value) (n : Int) (tn : Tok) (hn1 : 1 ≤ n) (hn2 : n ≤ 40) (hok : DivOk (pf 6 n 2)) :
    Fn Challenge.rw_sa0083_01.row.prog w (hd.heap_39 w.params) hd.view_39 (looseW hd.view_39 []) mean mg mb 67 4 [.int n tn] (fun _ => True) (fun led r => ∃ l vs k ns, r = .ref l ∧ (l, lstObj vs k) ∈ led ∧ IntsAre vs ns ∧ ns.Perm (dvl (pf 6 n 2) [1])) := by
  walk_at "mine_enterC0"
  intro dp un gd cn cs Lc a ccd cl outer base g L' h₁ tk00 cells news s B F N Y' l1 X T hks hpre hd hu
  k_cells Y'
  (try simp only [List.cons_append, List.nil_append] at N); (try dsimp only); (try k_fold)
  k_steps
  refine Halt.go ?_
  rename_i tl9 h9 tk9 lF lN hno9 l9 vs9 k9 m9 P9
  rename_i Df x0 l1f h3 u3 x3
  have en : (if n < 0 then -n else n) = n := by omega
  rw [en] at P9
  generalize pf 6 n 2 = ps at hok P9 ⊢
  rename Obj.data _ = Data.cell _ => dA
  revert dA
  rename Obj.data _ = Data.cell _ => dB
  intro dA
  have c1n : _ = Data.cell none := dA
  have c2n : _ = Data.cell none := dB
  clear dA dB
  refine' for_pairs (c1 := L' + 1) (c2 := L' + 1 + 1) (l := l9) (k := k9) (vs := vs9) (ps := ps) (r₀ := tl9 ++ ((Df, lstObj [.int 1 tk00] 0) :: news)) (v1 := none) (v2 := none) (fun i m r => ∃ Df ys cf, m (Str.ofString "found") = some (.ref Df) ∧ (Df, lstObj ys cf) ∈ r ∧ IntsAre ys (dvl (ps.take i) [1]) ∧ (l9, lstObj vs9 k9) ∈ r ∧ PairsA r vs9 ps ∧ ∀ p ∈ news, p ∈ r)
    (by rfl) (by first | passes_own | with_unfolding_all passes_own) (by rfl) (by rfl) (by rfl) (by rfl) (by rfl) (Nat.ne_of_lt (Nat.lt_succ_self _)) lF ⟨_, _, c1n, c2n, fun p hp => lN p (by simp only [List.mem_append, List.mem_cons] at hp ⊢; rcases hp with h | h | h | h | h <;> simp [h])⟩ ?hJ ?hl ?hoff ?turn ?done
  case hJ => exact ⟨Df, [.int 1 tk00], 0, by with_unfolding_all rfl, List.mem_append.mpr (.inr (.head _)), .cons 1 _ .nil, List.mem_append.mpr (.inl m9), P9.mono (fun _ h => List.mem_append.mpr (.inl h)), fun p hp => List.mem_append.mpr (.inr (.tail _ hp))⟩
  case hl =>
    intro i m r h
    obtain ⟨_, _, _, _, _, _, h1, h2, _⟩ := h
    exact ⟨h1, h2⟩
  case hoff =>
    intro q hq
    rcases List.mem_append.mp hq with hq | hq
    · exact ⟨Ne.symm (hno9 q hq _ (.tail _ (.tail _ (.head _)))), Ne.symm (hno9 q hq _ (.tail _ (.head _)))⟩
    · rcases List.mem_cons.mp hq with rfl | hq
      · exact ⟨Nat.ne_of_gt l1f.2.1, Nat.ne_of_gt l1f.1⟩
      · have := l1 q hq
        exact ⟨Nat.ne_of_lt (Nat.lt_succ_of_lt this), Nat.ne_of_lt (Nat.lt_succ_of_lt (Nat.lt_succ_of_lt this))⟩
  case turn =>
    clear lF lN hno9
    intro i p e m r o1 o2 t1 t2 h6 tk6 I oI hp hJ e1 e2 F' N' off hI1 hI2
    obtain ⟨D6, ys, cf, hf, hD6, hys, hl6, hP6, hn6⟩ := hJ
    rw [frame_one hf] at F'
    have hi : i < ps.length := (List.getElem?_eq_some_iff.mp hp).1
    have hok1 := hok.1 i (by omega)
    have hpe := hok.2 (p, e) (List.mem_of_getElem? hp)
    refine wpAny_execs_cons ?_
    refine' comp2_assign (h₀ := g) (L := L') (m := fun z => if z = Str.ofString "found" then some (.ref D6) else m z) (f := fun a j => a * p ^ j.toNat) (nn := (e + 1).toNat) (by rfl) (by with_unfolding_all rfl) (by rfl) (by with_unfolding_all rfl) (by decide) (by rfl) (by decide) (by rfl) (by rfl) (by decide) (by omega) (by with_unfolding_all rfl) (by rfl) ?_
    refine nameX_L (cs := _) F' (by rfl) ?_
    refine ⟨D6, ys, cf, _, _, rfl, F', N', (by simp only [List.mem_cons]; simp [hD6]), hys, Nat.le_of_lt hok1.1, ?_, ?_, ?_⟩
    · intro a1 C oC m₂ t₁ h tk E' ha hC hx F1 N1
      have he1 : (((e + 1).toNat : Nat) : Int) = e + 1 := Int.toNat_of_nonneg (by have := hpe.2.2.1; dsimp only at this; omega)
      rw [he1]
      k_steps
      all_goals first
        | exact ⟨_, _, rfl, fun b o z => by assumption⟩
        | exact ⟨_, _, rfl, by assumption⟩
        | exact ⟨by assumption, rfl, rfl, rfl⟩
        | trace_state
    · intro a1 j C oC m₂ t₁ t₂ h tk E' ha hj hC hx hy F1 N1
      k_steps
      have hb1 := hok1.2 a1 ha
      have hb2 := pow_bd hpe.1 hpe.2.1 j (by have := hpe.2.2.2; dsimp only at this; omega)
      exact mul_int ⟨⟨_, rfl⟩, _, _, rfl, fun _ _ z => z⟩
    · intro D h tk ys' F1 N1 off1 hys'
      refine wpAny_execs_nil ?_
      have hd := dvl_snoc p e (ps.take i) [1]
      have hsnoc : ps.take (i + 1) = ps.take i ++ [(p, e)] := by rw [List.take_add_one, hp]; rfl
      rw [← hsnoc] at hd
      refine FlEnd.intro (r := (D, LCg.lst ys') :: r) F1 (fun q hq => N1 q (by simp only [List.mem_cons] at hq ⊢; rcases hq with h | h | h | h | h <;> simp [h])) e1 e2 ?_ ⟨D, ys', _, by with_unfolding_all rfl, .head _, by rw [hd]; exact hys', .tail _ hl6, hP6.mono (fun _ h => .tail _ h), fun q hq => .tail _ (hn6 q hq)⟩
      intro q hq
      rcases List.mem_cons.mp hq with rfl | hq
      · exact ⟨Ne.symm (off1 _ (.head _)), Ne.symm (off1 _ (.tail _ (.head _))), Ne.symm (off1 _ (.tail _ (.tail _ (.head _))))⟩
      · exact off q hq
  case done =>
    clear lF lN hno9
    intro m r h6 tk6 v1 v2 hJ F' hC off
    obtain ⟨D6, ys, cf, hf, hD6, hys, hl6, hP6, hn6⟩ := hJ
    obtain ⟨o1, o2, e1, e2, N'⟩ := hC
    rw [frame_one hf] at F'
    rw [List.take_length] at hys
    have hok1 := hok.1 ps.length (Nat.le_refl _)
    rw [List.take_length] at hok1
    (try dsimp only); (try k_fold)
    k_steps
    refine W.kso_sorted F' N' ⟨_, (N' _ (.tail _ (.tail _ hD6))).1, rfl, _, rfl⟩ hys hok1.1 (fun D vs' ns' c h' F1 N1 lt1 i1 _ p1 _ _ => ?_)
    refine fn_end [(D, W.listOf vs'.toArray c)] F1 ?_ ?_ ⟨D, vs', c, ns', rfl, .head _, i1, p1⟩
    · intro q hq
      rcases List.mem_cons.mp hq with rfl | hq
      · exact N1 _ (.head _)
      · exact N1 _ (.tail _ (.tail _ (.tail _ (hn6 q hq))))
    · intro q hq p hp
      rcases List.mem_cons.mp hq with rfl | hq
      · exact Nat.ne_of_lt (lt1 p (.tail _ (.tail _ (hn6 p hp))))
      · cases hq
end Mine
namespace Mine
theorem Halt.out {P : Prop} (h : Halt P) : P := h
/-- an int is given, and all objects stand -/
def GiveI (s : Shared) (v : Int) (z : Value) (s' : Shared) : Prop := (∃ q, z = .int v q) ∧ Keeps s s'
def GiveB (s : Shared) (v b : Bool) (s' : Shared) : Prop := b = v ∧ Keeps s s'
theorem GiveI.intro {s s' : Shared} {v a : Int} {q : Tok} (e : a = v) (k : Keeps s s') : GiveI s v (.int a q) s' := ⟨⟨q, by rw [e]⟩, k⟩
theorem GiveB.intro {s s' : Shared} {v b : Bool} (e : b = v) (k : Keeps s s') : GiveB s v b s' := ⟨e, k⟩
theorem keeps_toks {s s' : Shared} {tk : Nat} (e : s' = { s with toks := tk }) : Keeps s s' := ⟨s.heap, tk, e, fun _ _ z => z⟩
section
variable {prog : Program} {w : World} {A : Around} {E : Value → Shared → Prop} {s : Shared} {h₀ : Heap} {L : Addr} {m : Str → Option Value} {env : Env}
/-- a comprehension of ints over a list of ints -/
theorem ci_ints {elt : Expr} {x : Str} {scope : Scope} {cl : List (Str × Addr)} {Fin : Shared → List Value → Led → Prop} {ax : Addr} {k : Nat} {vs : List Value} {ns : List Int} {news : Led} {s₁ : Shared} (f : Int → Int)
    (hh : A.handled = none) (F : Fr h₀ L s₁.heap m) (N : News h₀ L s₁.heap news) (hm : (ax, lstObj vs k) ∈ news) (hi : IntsAre vs ns) (h64 : ns.length ≤ 64)
    (turn : ∀ a t C oC m₂ h tk (E' : Value → Shared → Prop), a ∈ ns → LCg.NsObj oC m₂ → m₂ x = some (.int a t) → Fr h₀ L h m → News h₀ L h ((C, oC) :: news) →
      wpAny (model prog w) A (eval elt (compEnvC scope cl C env)) (GiveI { s₁ with heap := h, toks := tk } (f a)) E' { s₁ with heap := h, toks := tk })
    (fin : ∀ g ys, IntsAre ys (ns.map f) → Fin { s₁ with heap := g } ys news) : LCg.CompSrc prog w A h₀ L m env elt x scope cl Fin (.ref ax) s₁ := by
  have hlen := hi.length
  refine LCg.CompSrc.ledger hh F N hm (by rw [PySem.sizeLine_eq, List.size_toArray]; omega) fun g => ?_
  refine comp_rest (fun i ys tl => tl = [] ∧ IntsAre ys ((ns.take i).map f)) ⟨rfl, .nil⟩ ?_ ?_
  · intro i v ys tl I oI C oC D m₂ h tk E' hi' hv hR hno hC hx F' N' off ne
    obtain ⟨rfl, hy⟩ := hR
    obtain ⟨a, t, rfl, ha⟩ := IntsAre.at hi i v (by simpa using hv)
    refine wpAny_mono (turn a t C oC m₂ h tk E' (List.mem_of_getElem? ha) hC hx F' (fun p hp => N' p ?_)) (fun z s₂ hq => ?_) fun _ _ e => e
    · rcases List.mem_cons.mp hp with rfl | hp
      · exact .tail _ (.head _)
      · exact .tail _ (.tail _ (.tail _ hp))
    · obtain ⟨⟨q, rfl⟩, h', tk', rfl, hk⟩ := hq
      refine ⟨h', tk', [], rfl, F'.keptAll hk, fun p hp => ⟨hk _ _ (N' p hp).1, (N' p hp).2⟩, off, fun _ h => (nomatch h), .inr ⟨_, hm, rfl, _, rfl⟩, rfl, ?_⟩
      rw [List.take_add_one, ha]
      simp only [Option.toList, List.map_append, List.map_cons, List.map_nil]
      exact IntsAre.append hy (.cons _ _ .nil)
  · intro ys tl hR _
    obtain ⟨rfl, hy⟩ := hR
    rw [List.take_of_length_le (by rw [List.size_toArray]; omega)] at hy
    exact fin g ys hy
/-- the same, with a test -/
theorem ci_test {ct elt : Expr} {x : Str} {scope : Scope} {cl : List (Str × Addr)} {Fin : Shared → List Value → Led → Prop} {ax : Addr} {k : Nat} {vs : List Value} {ns : List Int} {news : Led} {s₁ : Shared} (c : Int → Bool) (f : Int → Int)
    (hh : A.handled = none) (F : Fr h₀ L s₁.heap m) (N : News h₀ L s₁.heap news) (hm : (ax, lstObj vs k) ∈ news) (hi : IntsAre vs ns) (h64 : ns.length ≤ 64)
    (test : ∀ a t C oC m₂ h tk (E' : Value → Shared → Prop), a ∈ ns → LCg.NsObj oC m₂ → m₂ x = some (.int a t) → Fr h₀ L h m → News h₀ L h ((C, oC) :: news) →
      wpAny (model prog w) A (isTrue ct (compEnvC scope cl C env) (eval ct (compEnvC scope cl C env))) (GiveB { s₁ with heap := h, toks := tk } (c a)) E' { s₁ with heap := h, toks := tk })
    (turn : ∀ a t C oC m₂ h tk (E' : Value → Shared → Prop), a ∈ ns → LCg.NsObj oC m₂ → m₂ x = some (.int a t) → Fr h₀ L h m → News h₀ L h ((C, oC) :: news) →
      wpAny (model prog w) A (eval elt (compEnvC scope cl C env)) (GiveI { s₁ with heap := h, toks := tk } (f a)) E' { s₁ with heap := h, toks := tk })
    (fin : ∀ g ys, IntsAre ys ((ns.filter c).map f) → Fin { s₁ with heap := g } ys news) : LCt.CompSrcT prog w A h₀ L m env ct elt x scope cl Fin (.ref ax) s₁ := by
  have hlen := hi.length
  refine LCt.CompSrcT.ledger hh F N hm (by rw [PySem.sizeLine_eq, List.size_toArray]; omega) fun g => ?_
  refine W.kci_list (fun l k => if c k then l ++ [f k] else l) hi ?_ ?_ ?_
  · intro a t I oI C oC D m₂ ys l h tk E' ha hy hC hx F' N' off ne _
    have off' : ∀ p ∈ (C, oC) :: news, p ∈ (I, oI) :: (C, oC) :: (D, LCg.lst ys) :: news := fun p hp => by
      rcases List.mem_cons.mp hp with rfl | hp
      · exact .tail _ (.head _)
      · exact .tail _ (.tail _ (.tail _ hp))
    refine wpAny_mono (test a t C oC m₂ h tk E' ha hC hx F' (fun p hp => N' p (off' p hp))) (fun b s₂ hq => ?_) fun _ _ e => e
    obtain ⟨rfl, h', tk', rfl, hk⟩ := hq
    have F2 := F'.keptAll hk
    have N2 : News h₀ L h' ((I, oI) :: (C, oC) :: (D, LCg.lst ys) :: news) := fun p hp => ⟨hk _ _ (N' p hp).1, (N' p hp).2⟩
    cases hc : c a with
    | true =>
      simp only [if_true]
      refine wpAny_mono (turn a t C oC m₂ h' tk' E' ha hC hx F2 (fun p hp => N2 p (off' p hp))) (fun z s₂ hq => ?_) fun _ _ e => e
      obtain ⟨⟨q, rfl⟩, h3, tk3, rfl, hk3⟩ := hq
      exact ⟨h3, tk3, news, rfl, F2.keptAll hk3, fun p hp => ⟨hk3 _ _ (N2 p hp).1, (N2 p hp).2⟩, off, .inr ⟨_, hm, rfl, _, rfl⟩, rfl, _, _, rfl, by simp [hc]⟩
    | false =>
      simp only [Bool.false_eq_true, if_false]
      exact ⟨h', tk', news, rfl, F2, N2, off, .inr ⟨_, hm, rfl, _, rfl⟩, rfl, by simp [hc]⟩
  · intro ys hy _
    refine fin g ys ?_
    have key : ∀ (xs l : List Int), xs.foldl (fun l k => if c k then l ++ [f k] else l) l = l ++ (xs.filter c).map f := by
      intro xs
      induction xs with
      | nil => intro l; simp
      | cons z xs ih => intro l; cases hz : c z <;> simp [ih, hz]
    rw [key] at hy
    exact hy
  · intro l k
    cases hz : c k <;> simp [hz]
theorem lt_halt {ct elt iter : Expr} {x : Str} {px : Pos} {scope : Scope} {cl : List (Str × Addr)} {pos : Pos} {Q : Value → Shared → Prop} (F₀ : Fr h₀ L s.heap m)
    (hclos : closureFor scope env = pure cl) (hcell : ∀ y ∈ scope.names, y.2 ≠ .cell) (hkind : scope.kind = .function)
    (hnames : ∀ y ∈ scope.names, y.2 = .local → scope.names.lookup y.1 = some .local) (hx : scope.names.lookup x = some .local)
    (h : wpAny (model prog w) A (eval iter env) (fun xv s₁ => Halt (LCt.CompSrcT prog w A h₀ L m env ct elt x scope cl (fun s₂ => LCg.FinE h₀ L m s₂ Q) xv s₁)) E s)
    (hs : ∀ x, foldedSetIterable iter env x = pure x := by intro _; rfl) :
    wpAny (model prog w) A (eval (.ListComp elt [⟨.Name x px, iter, [ct], 0⟩] scope pos) env) Q E s := LCt.ListComp_T F₀ hclos hcell hkind hnames hx h hs
end
theorem int_end {g : Heap} {news all : Led} {s : Shared} {L' : Addr} {m' : Str → Option Value} {h' : Heap} {tk' : Nat} {v v' : Int} {t : Tok} (F : Fr g L' h' m') (N : News g L' h' all) (hs : ∀ p ∈ news, p ∈ all) (e : v = v') :
    FnEnd g news (fun _ r => ∃ q, r = .int v' q) s (.int v t) { s with heap := h', toks := tk' } := fn_end [] F (fun p hp => N p (hs p hp)) (fun _ h => nomatch h) ⟨t, by rw [e]⟩
/-- the divisors, in the order in which they are made -/
def dvs (n : Int) : List Int := dvl (pf 6 n 2) [1]
theorem good_nat : ∀ n : Nat, n < 40 → (DivOk (pf 6 ((n : Int) + 1) 2)) ∧ (dvs ((n : Int) + 1)).length < 64 ∧ ∀ a ∈ dvs ((n : Int) + 1), 1 ≤ a ∧ a ≤ 64 := by
  unfold DivOk
  decide +kernel
theorem good {n : Int} (h1 : 1 ≤ n) (h2 : n ≤ 40) : (DivOk (pf 6 n 2)) ∧ (dvs n).length < 64 ∧ ∀ a ∈ dvs n, 1 ≤ a ∧ a ≤ 64 := by
  have h := good_nat (n.toNat - 1) (by omega)
  have e : (((n.toNat - 1 : Nat) : Int) + 1) = n := by omega
  rw [e] at h
  exact h
theorem good_perm {n : Int} {ns : List Int} (h1 : 1 ≤ n) (h2 : n ≤ 40) (p : ns.Perm (dvl (pf 6 n 2) [1])) : ns.length ≤ 64 ∧ ∀ a ∈ ns, 1 ≤ a ∧ a ≤ 64 := by
  have g := (good h1 h2).2
  rw [dvs] at g
  exact ⟨by rw [p.length_eq]; omega, fun a ha => g.2 a (p.mem_iff.mp ha)⟩
theorem sum_perm {xs ys : List Int} (p : xs.Perm ys) : xs.sum = ys.sum := by
  induction p with
  | nil => rfl
  | cons x _ ih => rw [List.sum_cons, List.sum_cons, ih]
  | swap x y _ => rw [List.sum_cons, List.sum_cons, List.sum_cons, List.sum_cons]; omega
  | trans _ _ a b => rw [a, b]
end Mine
local macro_rules | `(tactic| walk_at "call ref") => `(tactic| (k_here; k_dflt (refine' Mine.fn_use (Mine.div_fn _ _ _ _ _ _ ?hn1 ?hn2 (Mine.good ?hn3 ?hn4).1) ?B ?F ?X ?N ?T ?K ?P ?D ?U ?_; (case hn1 => omega); (case hn2 => omega); (case hn3 => omega); (case hn4 => omega); walk_at "mine_call"); intro r9 tl9 h9 tk9 F9 N9 hne9 ho9; (obtain ⟨l9, vs9, k9, ns9, e9, m9, I9, P9⟩ := ho9); subst e9; have G9 := Mine.good_perm (by omega) (by omega) P9; (try k_sweep); (try dsimp only); (try k_fold)))
local macro_rules | `(tactic| walk_at "eval ListComp") => `(tactic| (k_here; (fail_if_success (rename Mine.Quiet => q9)); (with_reducible show wpAny _ _ (eval (Expr.ListComp _ [Comprehension.mk _ _ [_] _] _ _) _) _ _ _); k_dflt (refine Mine.lt_halt (by k_asm) (by with_unfolding_all rfl) (by decide) (by rfl) (by decide) (by rfl) ?_)))
local macro_rules | `(tactic| walk_at "call builtin:sum") => `(tactic| (k_here; k_dflt (refine' LSm.sum_ints ?F ?N ?h ?hl ?hi ?_; (case F => k_asm); (case N => k_asm); (case h => rfl); (case hi => assumption); (case hl => (rename News _ _ _ _ => N9; exact ⟨_, (N9 _ (by k_mem)).1, rfl, _, rfl⟩)); k_whole); intro h9 tk9 t9 F9 N9; (try k_sweep); (try dsimp only); (try k_fold)))
namespace Mine
theorem cube_bd {a : Int} (h1 : 1 ≤ a) (h2 : a ≤ 64) : 0 ≤ a ^ ((3 : Int)).toNat ∧ a ^ ((3 : Int)).toNat ≤ 262144 := by
  obtain ⟨k, rfl⟩ := Int.eq_ofNat_of_zero_le (show 0 ≤ a by omega)
  have h := Nat.pow_le_pow_left (show k ≤ 64 by omega) 3
  have e : ((k : Int)) ^ ((3 : Int)).toNat = ((k ^ 3 : Nat) : Int) := (Int.natCast_pow k 3).symm
  rw [e]
  omega
theorem sign_bd : ∀ k : Nat, -1 ≤ (-1 : Int) ^ k ∧ (-1 : Int) ^ k ≤ 1
  | 0 => by rw [Int.pow_zero]; decide
  | k + 1 => by
    have h := sign_bd k
    rw [Int.pow_succ]
    omega
def lsq (n many : Int) : Int :=
  if n = 0 then 1
  else if many = 2 then 4 * (((dvs n).filter fun d => d.fmod 2 == 1).map fun d => if d.fmod 4 = 1 then 1 else -1).sum
  else if many = 4 then 8 * (((dvs n).filter fun d => d.fmod 4 != 0).map fun d => d).sum
  else 16 * ((dvs n).map fun d => d ^ 3 * (-1) ^ (n + d).toNat).sum
theorem sq_fn (w : World) (mean : ExcName → Option Value) (mg mb : Str → Option Value) (n many : Int) (tn tm : Tok) (hn1 : 0 ≤ n) (hn2 : n ≤ 9) (hm : many = 2 ∨ many = 4 ∨ many = 8) :
    Fn Challenge.rw_sa0083_01.row.prog w (hd.heap_39 w.params) hd.view_39 (looseW hd.view_39 []) mean mg mb 163 5 [.int n tn, .int many tm] (fun _ => True) (fun led r => ∃ q, r = .int (lsq n many) q) := by
  walk_at "mine_enterC0"
  intro dp un gd cn cs Lc a ccd cl outer base g L' h₁ tk00 cells news s B F N Y' l1 X T hks hpre hd hu
  k_cells Y'
  (try simp only [List.cons_append, List.nil_append] at N); (try dsimp only); (try k_fold)
  k_steps
  · show FnEnd g news _ _ _ _
    rename n = 0 => hz
    exact int_end (by k_asm) (by k_asm) (by walk_at "mine_sub") (by rw [lsq, if_pos hz])
  · refine Halt.go ?_
    rename_i tl9 h9 tk9 F9 N9 no9 l9 vs9 k9 ns9 m9 I9 P9 G9
    refine ci_test (fun d => d.fmod 2 == 1) (fun d => if d.fmod 4 = 1 then 1 else -1) (by rfl) F9 N9 (List.mem_append.mpr (.inl m9)) I9 G9.1 ?_ ?_ ?_
    · intro a t C oC m₂ h tk E' ha hC hx F1 N1
      k_steps
      exact .intro rfl (keeps_toks rfl)
    · intro a t C oC m₂ h tk E' ha hC hx F1 N1
      k_steps
      · rename a.fmod 4 = 1 => h4
        exact .intro (if_pos h4).symm (keeps_toks rfl)
      · rename ¬ a.fmod 4 = 1 => h4
        exact .intro (if_neg h4).symm (keeps_toks rfl)
    · intro g9 ys hy
      intro D h tk F1 N1 _
      k_steps
      exact int_end (by k_asm) (by k_asm) (by walk_at "mine_sub") (by rw [lsq, if_neg (by assumption), if_pos (by assumption)]; exact congrArg (fun z => 4 * z) (sum_perm ((P9.filter _).map _)))
  · refine Halt.go ?_
    rename_i tl9 h9 tk9 F9 N9 no9 l9 vs9 k9 ns9 m9 I9 P9 G9
    refine ci_test (fun d => d.fmod 4 != 0) (fun d => d) (by rfl) F9 N9 (List.mem_append.mpr (.inl m9)) I9 G9.1 ?_ ?_ ?_
    · intro a t C oC m₂ h tk E' ha hC hx F1 N1
      k_steps
      exact .intro rfl (keeps_toks rfl)
    · intro a t C oC m₂ h tk E' ha hC hx F1 N1
      k_steps
      exact .intro rfl (keeps_toks rfl)
    · intro g9 ys hy
      intro D h tk F1 N1 _
      k_steps
      exact int_end (by k_asm) (by k_asm) (by walk_at "mine_sub") (by rw [lsq, if_neg (by assumption), if_neg (by assumption), if_pos (by assumption)]; exact congrArg (fun z => 8 * z) (sum_perm ((P9.filter _).map _)))
  · refine Halt.go ?_
    rename_i tl9 h9 tk9 F9 N9 no9 l9 vs9 k9 ns9 m9 I9 P9 G9
    refine ci_ints (fun d => d ^ 3 * (-1) ^ (n + d).toNat) (by rfl) F9 N9 (List.mem_append.mpr (.inl m9)) I9 G9.1 ?_ ?_
    · intro a t C oC m₂ h tk E' ha hC hx F1 N1
      have hb := G9.2 a ha
      have hb3 := cube_bd hb.1 hb.2
      have hb1 := sign_bd (n + a).toNat
      k_steps
      exact .intro rfl (keeps_toks rfl)
    · intro g9 ys hy
      intro D h tk F1 N1 _
      k_steps
      exact int_end (by k_asm) (by k_asm) (by walk_at "mine_sub") (by rw [lsq, if_neg (by assumption), if_neg (by assumption), if_neg (by assumption)]; exact congrArg (fun z => 16 * z) (sum_perm (P9.map _)))
end Mine
namespace Mine
def ltr (n many : Int) : Int :=
  if many = 2 then ((dvs (4 * n + 1)).map fun d => if d.fmod 4 = 1 then 1 else -1).sum
  else if many = 4 then (dvs (2 * n + 1)).sum
  else (((dvs (n + 1)).filter fun d => ((n + 1).fdiv d).fmod 2 == 1).map fun d => d ^ 3).sum
theorem tri_fn (w : World) (mean : ExcName → Option Value) (mg mb : Str → Option Value) (n many : Int) (tn tm : Tok) (hn1 : 0 ≤ n) (hn2 : n ≤ 9) (hm : many = 2 ∨ many = 4 ∨ many = 8) :
    Fn Challenge.rw_sa0083_01.row.prog w (hd.heap_39 w.params) hd.view_39 (looseW hd.view_39 []) mean mg mb 168 5 [.int n tn, .int many tm] (fun _ => True) (fun led r => ∃ q, r = .int (ltr n many) q) := by
  walk_at "mine_enterC0"
  intro dp un gd cn cs Lc a ccd cl outer base g L' h₁ tk00 cells news s B F N Y' l1 X T hks hpre hd hu
  k_cells Y'
  (try simp only [List.cons_append, List.nil_append] at N); (try dsimp only); (try k_fold)
  k_steps
  · refine Halt.go ?_
    rename_i tl9 h9 tk9 F9 N9 no9 l9 vs9 k9 ns9 m9 I9 P9 G9
    refine ci_ints (fun d => if d.fmod 4 = 1 then 1 else -1) (by rfl) F9 N9 (List.mem_append.mpr (.inl m9)) I9 G9.1 ?_ ?_
    · intro a t C oC m₂ h tk E' ha hC hx F1 N1
      k_steps
      · rename a.fmod 4 = 1 => h4
        exact .intro (if_pos h4).symm (keeps_toks rfl)
      · rename ¬ a.fmod 4 = 1 => h4
        exact .intro (if_neg h4).symm (keeps_toks rfl)
    · intro g9 ys hy
      intro D h tk F1 N1 _
      k_steps
      exact int_end (by k_asm) (by k_asm) (by walk_at "mine_sub") (by rw [ltr, if_pos (by assumption)]; exact (sum_perm (P9.map _)))
  · rename_i tl9 h9 tk9 F9 N9 no9 l9 vs9 k9 ns9 m9 I9 P9 G9
    refine LSm.sum_ints F9 N9 (by rfl) ⟨_, (N9 _ (List.mem_append.mpr (.inl m9))).1, rfl, _, rfl⟩ I9 (fun h' tk' t' F1 N1 => ?_)
    k_steps
    exact int_end (by k_asm) (by k_asm) (by walk_at "mine_sub") (by rw [ltr, if_neg (by assumption), if_pos (by assumption)]; exact sum_perm P9)
  · refine Halt.go ?_
    rename_i tl9 h9 tk9 F9 N9 no9 l9 vs9 k9 ns9 m9 I9 P9 G9
    refine ci_test (fun d => ((n + 1).fdiv d).fmod 2 == 1) (fun d => d ^ 3) (by rfl) F9 N9 (List.mem_append.mpr (.inl m9)) I9 G9.1 ?_ ?_ ?_
    · intro a t C oC m₂ h tk E' ha hC hx F1 N1
      have hb := G9.2 a ha
      k_steps
      exact .intro rfl (keeps_toks rfl)
    · intro a t C oC m₂ h tk E' ha hC hx F1 N1
      have hb := G9.2 a ha
      k_steps
      exact .intro rfl (keeps_toks rfl)
    · intro g9 ys hy
      intro D h tk F1 N1 _
      k_steps
      exact int_end (by k_asm) (by k_asm) (by walk_at "mine_sub") (by rw [ltr, if_neg (by assumption), if_neg (by assumption)]; exact sum_perm ((P9.filter _).map _))
end Mine
namespace Mine
def place (kind k : Int) : Int := if kind = 0 then k * k else (k * (k + 1)).fdiv 2
/-- the numbers list after i turns -/
def nums (kind a₀ : Int) (size : Nat) : Nat → List Int
  | 0 => List.replicate size 0
  | i + 1 => if place kind (a₀ + (i : Int)) < (size : Int)
      then (nums kind a₀ size i).set (place kind (a₀ + (i : Int))).toNat ((nums kind a₀ size i).getD (place kind (a₀ + (i : Int))).toNat 0 + 1)
      else nums kind a₀ size i
theorem nums_length (kind a₀ : Int) (size : Nat) : ∀ i, (nums kind a₀ size i).length = size
  | 0 => List.length_replicate ..
  | i + 1 => by
    unfold nums
    split
    · rw [List.length_set]; exact nums_length kind a₀ size i
    · exact nums_length kind a₀ size i
theorem flat_rep (n : Nat) : (List.replicate n [(0 : Int)]).flatten = List.replicate n 0 := by
  induction n with
  | zero => rfl
  | succ n ih => rw [List.replicate_succ, List.flatten_cons, ih, List.replicate_succ]; rfl
def numsK (kind : Int) (size : Nat) : List Int := if kind = 0 then nums kind (1 - (size : Int)) size (2 * size - 1) else nums kind 0 size size
theorem numsK_length (kind : Int) (size : Nat) : (numsK kind size).length = size := by
  unfold numsK
  split <;> exact nums_length _ _ _ _
def unitL (as : List Int) : List Int := 1 :: List.replicate (as.length - 1) 0
def powr (many : Int) (as : List Int) : List Int :=
  if many = 2 then sm (unitL as) (sm as as)
  else if many = 4 then sm (unitL as) (sm (sm as as) (sm as as))
  else sm (unitL as) (sm (sm (sm as as) (sm as as)) (sm (sm as as) (sm as as)))
def dueF (kind many n : Int) : Int := if kind = 0 then lsq n many else ltr n many
def dueL (kind many : Int) (size : Nat) : List Int := (List.range size).map fun (n : Nat) => dueF kind many (n : Int)
def smallB (as : List Int) : Bool := decide (as.length ≤ 64) && as.all fun x => decide (-(2 ^ 20) < x) && decide (x < 2 ^ 20)
theorem small_of {as : List Int} (h : smallB as = true) : Small as := by
  simp only [smallB, Bool.and_eq_true, decide_eq_true_eq, List.all_eq_true] at h
  refine ⟨h.1, fun i => ?_⟩
  by_cases hi : i < as.length
  · have e : as.getD i 0 = as[i] := by simp [hi]
    rw [e]
    exact h.2 _ (List.getElem_mem hi)
  · have e : as.getD i 0 = 0 := by simp [List.getD, List.getElem?_eq_none (Nat.le_of_not_lt hi)]
    rw [e]; decide
/-- the ratios n/1, read -/
def ratsD (ns : List Int) : PyData := .list (ns.map fun n => .tuple [.int n, .int 1])
def okB (kind many : Int) (size : Nat) : Bool :=
  smallB (unitL (numsK kind size)) && smallB (numsK kind size) && smallB (sm (numsK kind size) (numsK kind size)) && smallB (sm (sm (numsK kind size) (numsK kind size)) (sm (numsK kind size) (numsK kind size)))
  && (many != 8 || smallB (sm (sm (sm (numsK kind size) (numsK kind size)) (sm (numsK kind size) (numsK kind size))) (sm (sm (numsK kind size) (numsK kind size)) (sm (numsK kind size) (numsK kind size)))))
  && (powr many (numsK kind size) == dueL kind many size) && PyData.layable0 (ratsD (dueL kind many size))
theorem ok_all : ∀ s : Nat, s < 7 → (okB 0 2 (s + 4) && okB 0 4 (s + 4) && okB 0 8 (s + 4) && okB 1 2 (s + 4) && okB 1 4 (s + 4) && okB 1 8 (s + 4)) = true := by decide +kernel
theorem ok_of {kind many : Int} {size : Nat} (h1 : kind = 0 ∨ kind = 1) (h2 : many = 2 ∨ many = 4 ∨ many = 8) (h3 : 4 ≤ size) (h4 : size ≤ 10) : okB kind many size = true := by
  have h := ok_all (size - 4) (by omega)
  rw [Nat.sub_add_cancel h3] at h
  simp only [Bool.and_eq_true] at h
  rcases h1 with rfl | rfl <;> rcases h2 with rfl | rfl | rfl <;> simp only [h]
theorem ok_facts {kind many : Int} {size : Nat} (h : okB kind many size = true) : Small (unitL (numsK kind size)) ∧ Small (numsK kind size) ∧ Small (sm (numsK kind size) (numsK kind size)) ∧ Small (sm (sm (numsK kind size) (numsK kind size)) (sm (numsK kind size) (numsK kind size)))
    ∧ (many = 8 → Small (sm (sm (sm (numsK kind size) (numsK kind size)) (sm (numsK kind size) (numsK kind size))) (sm (sm (numsK kind size) (numsK kind size)) (sm (numsK kind size) (numsK kind size)))))
    ∧ powr many (numsK kind size) = dueL kind many size ∧ PyData.layable0 (ratsD (dueL kind many size)) = true := by
  simp only [okB, Bool.and_eq_true, Bool.or_eq_true, beq_iff_eq] at h
  obtain ⟨⟨⟨⟨⟨⟨a, b⟩, c⟩, d⟩, e⟩, f⟩, g⟩ := h
  refine ⟨small_of a, small_of b, small_of c, small_of d, fun hm => ?_, f, g⟩
  rcases e with e | e
  · subst hm; exact absurd e (by decide)
  · exact small_of e
end Mine
namespace Mine
theorem rangeSize_gen (a b : Int) : Builtin.Range.rangeSize a b 1 = if a < b then b - a else 0 := by
  unfold Builtin.Range.rangeSize
  simp
theorem fm2 (x : Int) : x.fmod 2 = 0 ∨ x.fmod 2 = 1 := by
  rw [Int.fmod_eq_emod_of_nonneg x (by decide)]; omega
theorem fm7 (x : Int) : 4 ≤ 4 + x.fmod 7 ∧ 4 + x.fmod 7 ≤ 10 := by
  rw [Int.fmod_eq_emod_of_nonneg x (by decide)]; omega
section
variable {prog : Program} {w : World} {A : Around} {E : Value → Shared → Prop} {s : Shared} {env : Env} {h₀ : Heap} {x : Str} {body : List Stmt} {Q : Flow → Shared → Prop}
theorem range_loop2 {r : Addr} {a₀ b₀ : Int} {t₀ u₀ w₀ : Tok} {n : Nat} {m₀ : Str → Option Value} {news tl0 : Led} {y : Str} {v₀ : Value} (stored : List Str) (R : Nat → Led → Value → Prop)
    (hh : A.handled = none) (hr : IsRange s.heap r a₀ b₀ 1 t₀ u₀ w₀) (hsmall : Builtin.Range.small a₀ b₀ 1 = true) (hn : Builtin.Range.rangeSize a₀ b₀ 1 = (n : Int)) (F : Fr h₀ env.locals s.heap m₀) (N : News h₀ env.locals s.heap (tl0 ++ news)) (hno0 : NewOff tl0 news)
    (hy : m₀ y = some v₀) (h0 : R 0 tl0 v₀)
    (turn : ∀ i t v (u : Str → Option Value) tl h tk own, i < n → R i tl v → TbOff own (tl ++ news) → NewOff tl news →
      Fr h₀ env.locals h (fun z => if z = x then some (.int (a₀ + (i : Int)) t) else if z = y then some v else if stored.contains z then u z else m₀ z) → News h₀ env.locals h ((tl ++ news) ++ own) →
      wpAny (model prog w) A (execs body env) (TbPost h₀ env.locals (KeepR (R (i + 1)) x y stored m₀ news) own { s with heap := h, toks := tk } Q) E { s with heap := h, toks := tk })
    (done : ∀ (u : Str → Option Value) v tl h tk, R n tl v → NewOff tl news → Fr h₀ env.locals h (fun z => if z = x then u z else if z = y then some v else if stored.contains z then u z else m₀ z) → News h₀ env.locals h (tl ++ news) → Q .next { s with heap := h, toks := tk }) :
    wpAny (model prog w) A (pyIter (.ref r)) (fun it s₂ => LoopAtV prog w A h₀ env x body Q E it s₂) E s := by
  refine tbr_invG (fun i m nx => KeepR (R i) x y stored m₀ news m nx) hh hr hsmall hn F N ⟨tl0, v₀, rfl, hno0, hy, h0, fun _ _ _ _ => rfl⟩ ?_ ?_
  · rintro i k t m₁ nx h tk own hk hoff ⟨tl, v, rfl, hno, hv, hR, hm⟩ F₁ N₁
    have hi : i < n := by
      have := (List.getElem?_eq_some_iff.mp hk).1
      rwa [rangeKs_length] at this
    have ek : k = a₀ + (i : Int) := by
      have : (rangeKs a₀ n)[i]? = some (a₀ + (i : Int)) := by simp [rangeKs, hi]
      rw [this] at hk; exact (Option.some.inj hk).symm
    subst ek
    rw [keep_map hv hm] at F₁
    exact turn i t v m₁ tl h tk own hi hR hoff hno F₁ N₁
  · rintro m₁ nx h tk ⟨tl, v, rfl, hno, hv, hR, hm⟩ F₁ N₁
    rw [keep_map' hv hm] at F₁
    exact done m₁ v tl h tk hR hno F₁ N₁
def CutQ (P : Shared → Prop) (f : Flow) (s' : Shared) : Prop := f = .next ∧ P s'
theorem CutQ.intro {P : Shared → Prop} {s' : Shared} (h : P s') : CutQ P .next s' := ⟨rfl, h⟩
theorem cut1 {st : Stmt} {rest : List Stmt} (P : Shared → Prop) (h : wpAny (model prog w) A (exec st env) (CutQ P) E s) (r : ∀ s', P s' → wpAny (model prog w) A (execs rest env) Q E s') :
    wpAny (model prog w) A (execs (st :: rest) env) Q E s :=
  wpAny_execs_cons (wpAny_mono h (fun f s' hq => by obtain ⟨rfl, hp⟩ := hq; exact r s' hp) fun _ _ e => e)
/-- the law's frame between its statements -/
def LawAt (h₀ : Heap) (L : Addr) (s : Shared) (kind many : Int) (size : Nat) (X : Led → (Str → Option Value) → Prop) (s' : Shared) : Prop :=
  ∃ h tk m oK oM t1 t2 t3 led, s' = { s with heap := h, toks := tk } ∧ Fr h₀ L h m ∧ News h₀ L h ((L + 1 + 1, oM) :: (L + 1, oK) :: led) ∧ oK.data = .cell (some (.int kind t1)) ∧ oM.data = .cell (some (.int many t2)) ∧ m (Str.ofString "size") = some (.int (size : Int) t3) ∧ X led m
theorem LawAt.intro {L : Addr} {kind many z : Int} {size : Nat} {X : Led → (Str → Option Value) → Prop} {h : Heap} {tk : Nat} {m : Str → Option Value} {oK oM : Obj} {t1 t2 t3 : Tok} {all : Led} (led : Led)
    (F : Fr h₀ L h m) (N : News h₀ L h all) (hK : (L + 1, oK) ∈ all) (hM : (L + 1 + 1, oM) ∈ all) (hl : ∀ p ∈ led, p ∈ all) (d1 : oK.data = .cell (some (.int kind t1))) (d2 : oM.data = .cell (some (.int many t2))) (hs : m (Str.ofString "size") = some (.int z t3)) (hz : z = (size : Int)) (hx : X led m) :
    LawAt h₀ L s kind many size X { s with heap := h, toks := tk } :=
  ⟨h, tk, m, oK, oM, t1, t2, t3, led, rfl, F, fun p hp => N p (by
    rcases List.mem_cons.mp hp with rfl | hp
    · exact hM
    · rcases List.mem_cons.mp hp with rfl | hp
      · exact hK
      · exact hl p hp), d1, d2, by rw [hs, hz], hx⟩
def LawA (h₀ : Heap) (L : Addr) (s s' : Shared) : Prop := ∃ kind many size, (kind = 0 ∨ kind = 1) ∧ (many = 2 ∨ many = 4 ∨ many = 8) ∧ 4 ≤ size ∧ size ≤ 10 ∧ LawAt h₀ L s kind many size (fun _ _ => True) s'
theorem LawA.intro {L : Addr} {kind many z : Int} {h : Heap} {tk : Nat} {m : Str → Option Value} {oK oM : Obj} {t1 t2 t3 : Tok} {all : Led}
    (F : Fr h₀ L h m) (N : News h₀ L h all) (hK : (L + 1, oK) ∈ all) (hM : (L + 1 + 1, oM) ∈ all) (d1 : oK.data = .cell (some (.int kind t1))) (d2 : oM.data = .cell (some (.int many t2))) (hs : m (Str.ofString "size") = some (.int z t3))
    (bk : kind = 0 ∨ kind = 1) (bm : many = 2 ∨ many = 4 ∨ many = 8) (bz : 4 ≤ z ∧ z ≤ 10) : LawA h₀ L s { s with heap := h, toks := tk } :=
  ⟨kind, many, z.toNat, bk, bm, by omega, by omega, .intro [] F N hK hM (fun _ h => nomatch h) d1 d2 hs (by omega) trivial⟩
theorem cutA {L : Addr} {m : Str → Option Value} {st : Stmt} {rest : List Stmt} (_F : Fr h₀ L s.heap m) (h : wpAny (model prog w) A (exec st env) (CutQ (LawA h₀ L s)) E s) (r : ∀ s', LawA h₀ L s s' → wpAny (model prog w) A (execs rest env) Q E s') :
    wpAny (model prog w) A (execs (st :: rest) env) Q E s := cut1 _ h r
theorem cutX {L : Addr} {m : Str → Option Value} {st : Stmt} {rest : List Stmt} (_F : Fr h₀ L s.heap m) (kind many : Int) (size : Nat) (X : Led → (Str → Option Value) → Prop) (h : wpAny (model prog w) A (exec st env) (CutQ (LawAt h₀ L s kind many size X)) E s)
    (r : ∀ s', LawAt h₀ L s kind many size X s' → wpAny (model prog w) A (execs rest env) Q E s') : wpAny (model prog w) A (execs (st :: rest) env) Q E s := cut1 _ h r
def NumsX (kind : Int) (size : Nat) (led : Led) (m : Str → Option Value) : Prop := ∃ D vs k, m (Str.ofString "numbers") = some (.ref D) ∧ (D, lstObj vs k) ∈ led ∧ IntsAre vs (numsK kind size)
def ToldX (kind many : Int) (size : Nat) (led : Led) (m : Str → Option Value) : Prop := ∃ l, m (Str.ofString "told") = some (.ref l) ∧ SerA led l (powr many (numsK kind size))
def DueX (kind many : Int) (size : Nat) (led : Led) (m : Str → Option Value) : Prop := ∃ l D vs k, m (Str.ofString "told") = some (.ref l) ∧ SerA led l (powr many (numsK kind size)) ∧ m (Str.ofString "due") = some (.ref D) ∧ (D, lstObj vs k) ∈ led ∧ IntsAre vs (dueL kind many size)
end
end Mine
namespace Mine
theorem IntsAre.set' {vs : List Value} {ns : List Int} (h : IntsAre vs ns) (x : Int) (u : Tok) : ∀ i, IntsAre (vs.set i (.int x u)) (ns.set i x) := by
  induction h with
  | nil => intro i; exact .nil
  | cons a t r ih =>
    intro i
    cases i with
    | zero => exact .cons x u r
    | succ i => exact .cons a t (ih i)
section
variable {prog : Program} {w : World} {A : Around} {E : Value → Shared → Prop} {s : Shared} {h₀ : Heap} {L l : Addr} {m : Str → Option Value} {vs : List Value} {ns : List Int} {k : Nat} {rest all : Led} {j : Int} {t : Tok}
theorem int_item {value slice : PySem.Expr} {Q : Value → Shared → Prop} (N : News h₀ L s.heap all) (hm : (l, lstObj vs k) ∈ all) (hI : IntsAre vs ns)
    (he : subscripted slice false (.ref l) (.int j t) = operate [.ref l, .int j t] (getItem (.ref l) (.int j t))) (hg : ∀ r, letTemporaryGo value (.ref l) r = pure ()) (h0 : 0 ≤ j) (hi : j < ns.length) (h64 : ns.length ≤ 64)
    (h : ∀ u, Q (.int (ns.getD j.toNat 0) u) s) : wpAny (model prog w) A (subscriptTail value slice (.ref l) (.int j t)) Q E s := by
  have hlen := hI.length
  have hj : j.toNat < vs.length := by omega
  obtain ⟨a, u, e, ha⟩ := IntsAre.at hI j.toNat vs[j.toNat] (List.getElem?_eq_getElem hj)
  have hv : ns.getD j.toNat 0 = a := by rw [List.getD, ha]; rfl
  refine item_listL (l := vs) ⟨_, (N _ hm).1, rfl, _, rfl⟩ h0 (by omega) (by rw [List.getElem?_eq_getElem hj, e]) ?_ he hg
  rw [← hv]
  exact h u
theorem int_set {x : Int} {u : Tok} {Q : Unit → Shared → Prop} (F : Fr h₀ L s.heap m) (N : News h₀ L s.heap ((l, lstObj vs k) :: rest)) (off : ∀ p ∈ rest, p.1 ≠ l) (hI : IntsAre vs ns) (h0 : 0 ≤ j) (hi : j < ns.length) (h64 : ns.length ≤ 64)
    (h : ∀ h', Fr h₀ L h' m → News h₀ L h' ((l, lstObj (vs.set j.toNat (.int x u)) k) :: rest) → Q () { s with heap := h' }) : wpAny (model prog w) A (setItem (.ref l) (.int j t) (.int x u)) Q E s := by
  have hlen := hI.length
  have z := N _ (.head _)
  refine ki_setAt (items := vs.toArray) z.1 h0 (by omega) (by rw [List.size_toArray]; omega) (h _ (F.change (Heap.SameBut.update ..) z.2.1 z.2.2) (ki_turn (pre := []) _ N (fun _ h => nomatch h) off ?_ ?_))
  · simp
  · rw [if_pos (by simp)]
end
theorem nums_lt {kind a₀ p : Int} {size i : Nat} (e : place kind (a₀ + (i : Int)) = p) (h : p < (size : Int)) : nums kind a₀ size (i + 1) = (nums kind a₀ size i).set p.toNat ((nums kind a₀ size i).getD p.toNat 0 + 1) := by
  subst e
  show (if _ then _ else _) = _
  rw [if_pos h]
theorem nums_ge {kind a₀ p : Int} {size i : Nat} (e : place kind (a₀ + (i : Int)) = p) (h : ¬ p < (size : Int)) : nums kind a₀ size (i + 1) = nums kind a₀ size i := by
  subst e
  show (if _ then _ else _) = _
  rw [if_neg h]
theorem off_set {own news : Led} {D : Addr} {o o' : Obj} (h : TbOff own ([(D, o)] ++ news)) : TbOff own ([(D, o')] ++ news) := fun p hp q hq => by
  rcases List.mem_cons.mp hq with rfl | hq
  · exact h p hp (D, o) (.head _)
  · exact h p hp q (.tail _ hq)
theorem no_set {news : Led} {D : Addr} {o o' : Obj} (h : NewOff [(D, o)] news) : NewOff [(D, o')] news := fun q hq p hp => by
  rcases List.mem_cons.mp hq with rfl | hq
  · exact h (D, o) (.head _) p hp
  · cases hq
theorem allLt_mem {d : Addr} : ∀ {l : Led}, AllLt d l → ∀ p ∈ l, p.1 < d
  | [], _, _, h => nomatch h
  | _ :: _, x, p, h => (List.mem_cons.mp h).elim (fun e => e ▸ x.1) fun h => allLt_mem x.2 p h
theorem no_lt {news : Led} {D : Addr} {o : Obj} (h : AllLt D news) : NewOff [(D, o)] news := fun q hq p hp => by
  rcases List.mem_cons.mp hq with rfl | hq
  · exact Nat.ne_of_lt (allLt_mem h p hp)
  · cases hq
theorem off_rest {own news : Led} {D : Addr} {o : Obj} (hoff : TbOff own ([(D, o)] ++ news)) (hno : NewOff [(D, o)] news) : ∀ p ∈ news ++ own, p.1 ≠ D := fun p hp =>
  (List.mem_append.mp hp).elim (fun h => hno _ (.head _) p h) (fun h => hoff p h _ (.head _))
theorem place0 (k : Int) : 0 ≤ k * k := by
  rcases Int.le_total 0 k with h | h
  · exact Int.mul_nonneg h h
  · have := Int.mul_nonneg (show 0 ≤ -k by omega) (show 0 ≤ -k by omega)
    rwa [Int.neg_mul_neg] at this
theorem place1 {k : Int} (h : 0 ≤ k) : 0 ≤ (k * (k + 1)).fdiv 2 := by
  have := Int.mul_nonneg h (show 0 ≤ k + 1 by omega)
  rw [Int.fdiv_eq_ediv_of_nonneg _ (by decide)]
  omega
end Mine
namespace Mine
section
variable {prog : Program} {w : World} {A : Around} {E : Value → Shared → Prop} {s : Shared} {h₀ : Heap} {L : Addr} {m : Str → Option Value} {env : Env}
theorem rat_turn {m' : Str → Option Value} {s₁ : Shared} {I C D T : Addr} {oI oC oD : Obj} {S : Led → Prop} {news tl : Led} {h' : Heap} {tk : Nat} {n : Int} {t1 t2 : Tok} {kk : Nat} {ys : List Value} {ns : List Int}
    (F : Fr h₀ L h' m') (N : News h₀ L h' ((T, ratObj n t1 t2 kk) :: (I, oI) :: (C, oC) :: (D, oD) :: (tl ++ news))) (lt : AllLt T ((I, oI) :: (C, oC) :: (D, oD) :: (tl ++ news))) (off : LCg.Off3 I C D (tl ++ news)) (hno : NewOff tl news) (hR : RatsA tl ys ns) (hS : S ((T, ratObj n t1 t2 kk) :: (tl ++ news))) :
    TurnEnd h₀ L m' s₁ I oI C oC D oD S news (fun y tl' => RatsA tl' (ys ++ [y]) (ns ++ [n])) (.ref T) { s₁ with heap := h', toks := tk } := by
  refine turn_end ((T, ratObj n t1 t2 kk) :: tl) F N (fun p hp => ?_) (LCg.Off3.of fun p hp => ?_) (fun q hq p hp => ?_) hS ((hR.mono fun _ h => .tail _ h).snoc (.new (.head _)))
  · simp only [List.mem_cons, List.cons_append] at hp ⊢
    rcases hp with h | h | h | h | h <;> simp [h]
  · rcases List.mem_cons.mp hp with rfl | hp
    · exact ⟨Nat.ne_of_gt lt.1, Nat.ne_of_gt lt.2.1, Nat.ne_of_gt lt.2.2.1⟩
    · exact off.mem p hp
  · rcases List.mem_cons.mp hq with rfl | hq
    · exact Nat.ne_of_lt (allLt_mem lt p (.tail _ (.tail _ (.tail _ (List.mem_append.mpr (.inr hp))))))
    · exact hno q hq p hp
/-- a comprehension of ratios over a list of ints -/
theorem ci_rats {elt : Expr} {x : Str} {scope : Scope} {cl : List (Str × Addr)} {Fin : Shared → List Value → Led → Prop} {ax : Addr} {k : Nat} {vs : List Value} {ns : List Int} {news : Led} {s₁ : Shared}
    (hh : A.handled = none) (F : Fr h₀ L s₁.heap m) (N : News h₀ L s₁.heap news) (hm : (ax, lstObj vs k) ∈ news) (hi : IntsAre vs ns) (h64 : ns.length ≤ 64)
    (turn : ∀ a t I oI C oC D ys ms tl m₂ h tk (E' : Value → Shared → Prop), a ∈ ns → RatsA tl ys ms → NewOff tl news → LCg.NsObj oC m₂ → m₂ x = some (.int a t) → Fr h₀ L h m → News h₀ L h ((I, oI) :: (C, oC) :: (D, LCg.lst ys) :: (tl ++ news)) → LCg.Off3 I C D (tl ++ news) →
      wpAny (model prog w) A (eval elt (compEnvC scope cl C env)) (TurnEnd h₀ L m { s₁ with heap := h, toks := tk } I oI C oC D (LCg.lst ys) (LCg.SrcAt h₀ ax vs.toArray) news (fun y tl' => RatsA tl' (ys ++ [y]) (ms ++ [a]))) E' { s₁ with heap := h, toks := tk })
    (fin : ∀ g ys tl, RatsA tl ys ns → NewOff tl news → Fin { s₁ with heap := g } ys (tl ++ news)) : LCg.CompSrc prog w A h₀ L m env elt x scope cl Fin (.ref ax) s₁ := by
  have hlen := hi.length
  refine LCg.CompSrc.ledger hh F N hm (by rw [PySem.sizeLine_eq, List.size_toArray]; omega) fun g => ?_
  refine comp_rest (fun i ys tl => RatsA tl ys (ns.take i)) .nil ?_ ?_
  · intro i v ys tl I oI C oC D m₂ h tk E' hi' hv hR hno hC hx F' N' off ne
    obtain ⟨a, t, rfl, ha⟩ := IntsAre.at hi i v (by simpa using hv)
    have e : ns.take (i + 1) = ns.take i ++ [a] := by rw [List.take_add_one, ha]; rfl
    rw [e]
    exact turn a t I oI C oC D ys _ tl m₂ h tk E' (List.mem_of_getElem? ha) hR hno hC hx F' N' off
  · intro ys tl hR hno
    rw [List.take_of_length_le (by rw [List.size_toArray]; omega)] at hR
    exact fin g ys tl hR hno
/-- an int is given, and the frame and the ledger stand -/
def GiveN (h₀ : Heap) (L : Addr) (m : Str → Option Value) (s₁ : Shared) (all : Led) (v : Int) (z : Value) (s' : Shared) : Prop := ∃ q h' tk', z = .int v q ∧ s' = { s₁ with heap := h', toks := tk' } ∧ Fr h₀ L h' m ∧ News h₀ L h' all
theorem GiveN.intro {s₁ : Shared} {all tl : Led} {v : Int} {z : Value} {h' : Heap} {tk' : Nat} (e : ∃ q, z = .int v q) (F : Fr h₀ L h' m) (N : News h₀ L h' (tl ++ all)) : GiveN h₀ L m s₁ all v z { s₁ with heap := h', toks := tk' } := by
  obtain ⟨q, rfl⟩ := e
  exact ⟨q, h', tk', rfl, rfl, F, drop_app N⟩
/-- a comprehension of ints over range(n), whose item calls -/
theorem ci_range {elt : Expr} {x : Str} {scope : Scope} {cl : List (Str × Addr)} {Fin : Shared → List Value → Led → Prop} {r : Addr} {t u v : Tok} {n : Nat} {news : Led} {s₁ : Shared} (f : Nat → Int)
    (hh : A.handled = none) (F : Fr h₀ L s₁.heap m) (N : News h₀ L s₁.heap news) (hr : IsRange s₁.heap r 0 (n : Int) 1 t u v) (h64 : n ≤ 64)
    (turn : ∀ i t I oI C oC D ys m₂ h tk (E' : Value → Shared → Prop), i < n → LCg.NsObj oC m₂ → m₂ x = some (.int (i : Int) t) → Fr h₀ L h m → News h₀ L h ((I, oI) :: (C, oC) :: (D, LCg.lst ys) :: news) →
      wpAny (model prog w) A (eval elt (compEnvC scope cl C env)) (GiveN h₀ L m { s₁ with heap := h, toks := tk } ((I, oI) :: (C, oC) :: (D, LCg.lst ys) :: news) (f i)) E' { s₁ with heap := h, toks := tk })
    (fin : ∀ g ys, IntsAre ys ((List.range n).map f) → Fin { s₁ with heap := g } ys news) : LCg.CompSrc prog w A h₀ L m env elt x scope cl Fin (.ref r) s₁ := by
  refine LCg.CompSrc.range (n := n) hh F N hr (small_one (by omega) (by omega) (by omega) (by omega)) (by rw [rangeSize_nat]; omega) (by rw [PySem.sizeLine_eq]; omega) fun g => ?_
  refine comp_rest (fun i ys tl => tl = [] ∧ IntsAre ys ((List.range i).map f)) ⟨rfl, .nil⟩ ?_ ?_
  · intro i v ys tl I oI C oC D m₂ h tk E' hi hv hR hno hC hx F' N' off ne
    obtain ⟨rfl, hy⟩ := hR
    obtain ⟨t, rfl⟩ := hv
    rw [show (0 : Int) + (i : Int) = (i : Int) from Int.zero_add _] at hx
    refine wpAny_mono (turn i t I oI C oC D ys m₂ h tk E' hi hC hx F' N') (fun z s₂ hq => ?_) fun _ _ e => e
    obtain ⟨q, h', tk', rfl, rfl, F2, N2⟩ := hq
    refine turn_end [] F2 N2 (fun p hp => hp) off (fun _ h => nomatch h) trivial ⟨rfl, ?_⟩
    rw [List.range_succ, List.map_append]
    exact IntsAre.append hy (.cons _ _ .nil)
  · intro ys tl hR _
    obtain ⟨rfl, hy⟩ := hR
    exact fin g ys hy
theorem RatsA.reads {P : Params} {h : Heap} {news all : Led} (F : Fr h₀ L h m) (X : (hd.heap_39 P).In h₀) (N : News h₀ L h all) (hs : ∀ p ∈ news, p ∈ all) :
    ∀ {vs : List Value} {ns : List Int}, RatsA news vs ns → ReadsAll h vs (ns.map fun n => .tuple [.int n, .int 1]) []
  | _, _, .nil => .nil
  | _, _, .cons r t => by
    obtain ⟨t1, t2, o, ho, hc, k, hd⟩ := r.tup F X N hs
    exact .cons (as := []) (.tuple ho hc hd (.cons (.int _ _) (.cons (.int _ _) .nil))) (RatsA.reads F X N hs t)
/-- two lists of the same ratios are equal -/
theorem rats_eq {P : Params} {l D : Addr} {ns : List Int} {ys : List Value} {n1 n2 all : Led} {Q : Value → Shared → Prop} (S : SerA n1 l ns) (F : Fr h₀ L s.heap m) (X : (hd.heap_39 P).In h₀) (N : News h₀ L s.heap all) (hs : ∀ p ∈ n1, p ∈ all)
    (R : RatsA n2 ys ns) (hs2 : ∀ p ∈ n2, p ∈ all) (hD : (D, LCg.lst ys) ∈ all) (hl : PyData.layable0 (ratsD ns) = true) (hu : A.units + 64 < cLine) (h : Q (.bool true) s) :
    wpAny (model prog w) A (compareOp .Eq (.ref l) (.ref D)) Q E s := by
  obtain ⟨vs, k, hm, hv⟩ := S
  have ra : Reads s.heap (.ref l) (ratsD ns) [l] := .list (N _ (hs _ hm)).1 rfl rfl (hv.reads F X N hs)
  have rb : Reads s.heap (.ref D) (ratsD ns) [D] := .list (N _ hD).1 rfl rfl (R.reads F X N hs2)
  refine PyProof.Rows.eq_dataS ra rb hl hl hu ?_
  have hc : (ratsD ns).canLay0 = true := by
    simp only [PyData.layable0, Bool.and_eq_true] at hl
    exact hl.1.1
  rw [PySem.SeqAt.eqv_refl _ hc]
  exact h
end
theorem law_unitsE : callerA.units + 3 + 64 < cLine := by decide
theorem law_room : callerA.depth + 1 + 6 < recursionLimit := by decide
theorem law_room5 : callerA.depth + 1 + 5 < recursionLimit := by decide
theorem law_units5 : callerA.units + 3 + 8 * 5 < cLine := by decide
theorem law_units : callerA.units + 3 + 8 * 6 < cLine := by decide
end Mine
local macro_rules | `(tactic| walk_at "execs cons") => `(tactic| (k_here; (with_reducible show wpAny _ _ (execs (Stmt.Assign [Expr.Tuple [Expr.Name (Str.ofString "kind") _, _, _] _ _] _ _ :: _) _) _ _ _); refine Mine.Halt.out ?_))
local macro_rules | `(tactic| walk_at "execs cons") => `(tactic| (k_here; (with_reducible show wpAny _ _ (execs (Stmt.For _ _ _ _ _ :: _) _) _ _ _); refine Mine.Halt.out ?_))
local macro_rules | `(tactic| walk_at "subscriptTail") => `(tactic| (k_here; (fail_if_success (rename Mine.Quiet => q9)); (with_reducible show wpAny _ _ (subscriptTail _ _ (Value.ref _) (Value.int _ _)) _ _ _); refine Mine.Halt.out ?_))
local macro_rules | `(tactic| walk_at "setItem ref int") => `(tactic| (k_here; (fail_if_success (rename Mine.Quiet => q9)); refine Mine.Halt.out ?_))
local macro_rules | `(tactic| walk_at "call ref") => `(tactic| (k_here; (fail_if_success (rename Mine.Quiet => q9)); (with_reducible show wpAny _ _ (call (Value.ref _) _) _ _ _); refine Mine.Halt.out ?_))
theorem PySem.Challenge.cw_sa0083_01_holds : PySem.Challenge.rw_sa0083_01.Holds := by
  refine Mine.hd ?_
  w_strict (k_go0; (all_goals try k_fold); (have q9 : Mine.Quiet := trivial); k_steps)
  refine Mine.Halt.go ?_
  refine Mine.cutA (by k_asm) ?A ?B
  case A =>
    k_steps
    all_goals (refine Mine.CutQ.intro (Mine.LawA.intro (by k_asm) (by k_asm) (by k_mem) (by k_mem) (by assumption) (by assumption) (by with_unfolding_all rfl) ?_ ?_ ?_))
    all_goals first | exact Mine.fm2 _ | exact Mine.fm7 _ | decide
  case B =>
    intro s' hA
    clear q9
    obtain ⟨kind, many, size, bk, bm, z1, z2, h6, tk6, m6, oK, oM, t1, t2, t3, led, rfl, F', N', d1, d2, hs, -⟩ := hA
    rw [Mine.frame_one hs] at F'
    clear hs
    (try dsimp only)
    (try k_fold)
    k_steps
    refine Mine.Halt.go ?_
    rename_i l0 h0 l10 D0 h1 i1 n1 s1 e1 e2 e3 l11 h2 F2 N2
    refine Mine.cutX F2 kind many size (Mine.NumsX kind size) ?C ?D
    case C =>
      rcases bk with rfl | rfl
      all_goals k_steps
      · refine Mine.Halt.go ?_
        rename IsRange _ _ _ _ _ _ _ _ => lR
        rename Fr _ _ _ _ => lF
        rename News _ _ _ _ => lN
        have hsz : Builtin.Range.rangeSize (1 - (size : Int)) (size : Int) 1 = ((2 * size - 1 : Nat) : Int) := by rw [rangeSize_nat]; omega
        rw [Int.toNat_natCast, Mine.flat_rep] at i1
        with_unfolding_all refine Mine.range_loop2 (y := Str.ofString "numbers") (tl0 := [(D0, Mine.lstObj _ 0)]) (news := [(l0, W.listOf #[Value.int 0 tk6] 0), (_, oM), (_, oK)] ++ led) [Str.ofString "place"] (fun i tl v => ∃ D vs k, v = .ref D ∧ tl = [(D, Mine.lstObj vs k)] ∧ IntsAre vs (Mine.nums 0 (1 - (size : Int)) size i)) (by rfl) lR (small_one (by omega) (by omega) (by omega) (by omega)) hsz lF lN (Mine.no_lt l11) (by rfl) ⟨D0, _, 0, rfl, rfl, i1⟩ (fun i t v u tl h' tk' own hi hR hoff hno F' N' => ?_) (fun u v tl h' tk' hR hno F' N' => ?_)
        all_goals clear lF lN
        · obtain ⟨D, vs, k, rfl, rfl, hI⟩ := hR
          have hp0 := Mine.place0 (1 - (size : Int) + (i : Int))
          (try dsimp only)
          (try k_fold)
          k_steps
          · refine Mine.Halt.go ?_
            rename News _ _ _ _ => N5
            refine Mine.int_item N5 (.head _) hI (by with_unfolding_all rfl) (by intro _; with_unfolding_all rfl) hp0 (by rw [Mine.nums_length]; assumption) (by rw [Mine.nums_length]; omega) (fun u9 => ?_)
            k_steps
            refine Mine.Halt.go ?_
            rename News _ _ _ _ => N6
            rename Fr _ _ _ _ => F6
            rename _ < (size : Int) => hlt
            refine Mine.int_set F6 N6 (Mine.off_rest hoff hno) hI hp0 (by rw [Mine.nums_length]; exact hlt) (by rw [Mine.nums_length]; omega) (fun h7 F7 N7 => ?_)
            k_steps
            exact Mine.keep_end (by k_asm) (by k_asm) [(D, Mine.lstObj _ k)] (fun p hp => List.mem_append.mpr (.inl hp)) (fun p hp => List.mem_append.mpr (.inr hp)) (Mine.off_set hoff) (Mine.no_set hno) (by with_unfolding_all rfl) ⟨D, _, k, rfl, rfl, by rw [Mine.nums_lt (show Mine.place 0 ((1 - (size : Int)) + (i : Int)) = _ from rfl) hlt]; exact Mine.IntsAre.set' hI _ _ _⟩ (by ktm_same2)
          · rename ¬ _ < (size : Int) => hlt
            exact Mine.keep_end (by k_asm) (by k_asm) [(D, Mine.lstObj _ k)] (fun p hp => List.mem_append.mpr (.inl hp)) (fun p hp => List.mem_append.mpr (.inr hp)) hoff hno (by with_unfolding_all rfl) ⟨D, _, k, rfl, rfl, by rw [Mine.nums_ge (show Mine.place 0 ((1 - (size : Int)) + (i : Int)) = _ from rfl) hlt]; exact hI⟩ (by ktm_same2)
        · obtain ⟨D, vs, k, rfl, rfl, hI⟩ := hR
          exact Mine.CutQ.intro (Mine.LawAt.intro [(D, Mine.lstObj vs k)] F' N' (.tail _ (.tail _ (.tail _ (.head _)))) (.tail _ (.tail _ (.head _))) (fun p hp => List.mem_append.mpr (.inl hp)) d1 d2 (by with_unfolding_all rfl) rfl ⟨D, vs, k, by with_unfolding_all rfl, .head _, by rw [Mine.numsK, if_pos rfl]; exact hI⟩)
      · refine Mine.Halt.go ?_
        rename IsRange _ _ _ _ _ _ _ _ => lR
        rename Fr _ _ _ _ => lF
        rename News _ _ _ _ => lN
        have hsz : Builtin.Range.rangeSize 0 (size : Int) 1 = (size : Int) := by rw [rangeSize_nat]; omega
        rw [Int.toNat_natCast, Mine.flat_rep] at i1
        with_unfolding_all refine Mine.range_loop2 (y := Str.ofString "numbers") (tl0 := [(D0, Mine.lstObj _ 0)]) (news := [(l0, W.listOf #[Value.int 0 tk6] 0), (_, oM), (_, oK)] ++ led) [Str.ofString "place"] (fun i tl v => ∃ D vs k, v = .ref D ∧ tl = [(D, Mine.lstObj vs k)] ∧ IntsAre vs (Mine.nums 1 0 size i)) (by rfl) lR (small_one (by omega) (by omega) (by omega) (by omega)) hsz lF lN (Mine.no_lt l11) (by rfl) ⟨D0, _, 0, rfl, rfl, i1⟩ (fun i t v u tl h' tk' own hi hR hoff hno F' N' => ?_) (fun u v tl h' tk' hR hno F' N' => ?_)
        all_goals clear lF lN
        · obtain ⟨D, vs, k, rfl, rfl, hI⟩ := hR
          have hp0 := Mine.place1 (show 0 ≤ (0 : Int) + (i : Int) by omega)
          (try dsimp only)
          (try k_fold)
          k_steps
          · refine Mine.Halt.go ?_
            rename News _ _ _ _ => N5
            refine Mine.int_item N5 (.head _) hI (by with_unfolding_all rfl) (by intro _; with_unfolding_all rfl) hp0 (by rw [Mine.nums_length]; assumption) (by rw [Mine.nums_length]; omega) (fun u9 => ?_)
            k_steps
            refine Mine.Halt.go ?_
            rename News _ _ _ _ => N6
            rename Fr _ _ _ _ => F6
            rename _ < (size : Int) => hlt
            refine Mine.int_set F6 N6 (Mine.off_rest hoff hno) hI hp0 (by rw [Mine.nums_length]; exact hlt) (by rw [Mine.nums_length]; omega) (fun h7 F7 N7 => ?_)
            k_steps
            exact Mine.keep_end (by k_asm) (by k_asm) [(D, Mine.lstObj _ k)] (fun p hp => List.mem_append.mpr (.inl hp)) (fun p hp => List.mem_append.mpr (.inr hp)) (Mine.off_set hoff) (Mine.no_set hno) (by with_unfolding_all rfl) ⟨D, _, k, rfl, rfl, by rw [Mine.nums_lt (show Mine.place 1 (0 + (i : Int)) = _ from rfl) hlt]; exact Mine.IntsAre.set' hI _ _ _⟩ (by ktm_same2)
          · rename ¬ _ < (size : Int) => hlt
            exact Mine.keep_end (by k_asm) (by k_asm) [(D, Mine.lstObj _ k)] (fun p hp => List.mem_append.mpr (.inl hp)) (fun p hp => List.mem_append.mpr (.inr hp)) hoff hno (by with_unfolding_all rfl) ⟨D, _, k, rfl, rfl, by rw [Mine.nums_ge (show Mine.place 1 (0 + (i : Int)) = _ from rfl) hlt]; exact hI⟩ (by ktm_same2)
        · obtain ⟨D, vs, k, rfl, rfl, hI⟩ := hR
          exact Mine.CutQ.intro (Mine.LawAt.intro [(D, Mine.lstObj vs k)] F' N' (.tail _ (.tail _ (.tail _ (.head _)))) (.tail _ (.tail _ (.head _))) (fun p hp => List.mem_append.mpr (.inl hp)) d1 d2 (by with_unfolding_all rfl) rfl ⟨D, vs, k, by with_unfolding_all rfl, .head _, by rw [Mine.numsK, if_neg (by decide)]; exact hI⟩)
    case D =>
      clear F2 N2 d1 d2 i1 e1 e2 e3 l10 l11 t1 t2
      intro s' hA
      obtain ⟨h6, tk6, m7, oK, oM, t1, t2, t3, led, rfl, F', N', d1, d2, hs, D, vs, k, hnum, hD, hI⟩ := hA
      rw [Mine.frame_two hs hnum] at F'
      clear hs hnum
      refine Mine.cutX F' kind many size (Mine.ToldX kind many size) ?E ?G
      case E =>
        (try dsimp only)
        (try k_fold)
        k_steps
        refine Mine.Halt.go ?_
        rename Fr _ _ _ _ => F3
        rename News _ _ _ _ => N3
        refine Mine.ci_rats (by rfl) F3 N3 (.tail _ (.tail _ hD)) hI (by rw [Mine.numsK_length]; omega) ?_ ?_
        · intro a t I oI C oC D1 ys ms tl m₂ h tk E' ha hR hno hC hx F1 N1 off
          clear F3 N3
          k_steps
          rename_i Dn hn Fn Nn ln
          exact Mine.rat_turn Fn Nn ln off hno hR (.inr ⟨_, .tail _ (List.mem_append.mpr (.inr (.tail _ (.tail _ hD)))), rfl, _, rfl⟩)
        · intro g9 ys tl hR hno
          intro D1 h tk F1 N1 o1
          clear F3 N3
          k_steps
          refine Mine.Halt.go ?_
          obtain ⟨ok0, ok1, ok2, ok4, ok8, -, -⟩ := Mine.ok_facts (Mine.ok_of bk bm z1 z2)
          have hn1 : 1 ≤ (Mine.numsK kind size).length := by rw [Mine.numsK_length]; omega
          rcases bm with rfl | rfl | rfl
          · refine' Mine.fn_use (Mine.pow2_fn _ _ _ _ _ _ _ ok1 ok2 ok0 hn1) ?B ?F ?X ?N ?T ?K ?P ?D ?U ?_
            walk_at "mine_callA"
            (case P => exact ⟨ys, _, .head _, hR.mono (fun p hp => .tail _ (List.mem_append.mpr (.inl hp)))⟩)
            case D => exact Mine.law_room
            case U => exact Mine.law_units
            k_whole
            intro r9 tl9 h9 tk9 F9 N9 hne9 ho9
            obtain ⟨l9, rfl, S9⟩ := ho9
            (try k_sweep)
            (try dsimp only)
            (try k_fold)
            k_steps
            exact Mine.CutQ.intro (Mine.LawAt.intro tl9 (by k_asm) (by k_asm) (List.mem_append.mpr (.inr (.tail _ (List.mem_append.mpr (.inr (.tail _ (.head _))))))) (List.mem_append.mpr (.inr (.tail _ (List.mem_append.mpr (.inr (.head _)))))) (fun p hp => List.mem_append.mpr (.inl hp)) d1 d2 (by with_unfolding_all rfl) rfl ⟨l9, by with_unfolding_all rfl, by rw [Mine.powr, if_pos rfl]; exact S9⟩)
          · refine' Mine.fn_use (Mine.pow4_fn _ _ _ _ _ _ _ ok1 ok2 ok4 ok0 hn1) ?B ?F ?X ?N ?T ?K ?P ?D ?U ?_
            walk_at "mine_callA"
            (case P => exact ⟨ys, _, .head _, hR.mono (fun p hp => .tail _ (List.mem_append.mpr (.inl hp)))⟩)
            case D => exact Mine.law_room
            case U => exact Mine.law_units
            k_whole
            intro r9 tl9 h9 tk9 F9 N9 hne9 ho9
            obtain ⟨l9, rfl, S9⟩ := ho9
            (try k_sweep)
            (try dsimp only)
            (try k_fold)
            k_steps
            exact Mine.CutQ.intro (Mine.LawAt.intro tl9 (by k_asm) (by k_asm) (List.mem_append.mpr (.inr (.tail _ (List.mem_append.mpr (.inr (.tail _ (.head _))))))) (List.mem_append.mpr (.inr (.tail _ (List.mem_append.mpr (.inr (.head _)))))) (fun p hp => List.mem_append.mpr (.inl hp)) d1 d2 (by with_unfolding_all rfl) rfl ⟨l9, by with_unfolding_all rfl, by rw [Mine.powr, if_neg (by decide), if_pos rfl]; exact S9⟩)
          · refine' Mine.fn_use (Mine.pow8_fn _ _ _ _ _ _ _ ok1 ok2 ok4 (ok8 rfl) ok0 hn1) ?B ?F ?X ?N ?T ?K ?P ?D ?U ?_
            walk_at "mine_callA"
            (case P => exact ⟨ys, _, .head _, hR.mono (fun p hp => .tail _ (List.mem_append.mpr (.inl hp)))⟩)
            case D => exact Mine.law_room
            case U => exact Mine.law_units
            k_whole
            intro r9 tl9 h9 tk9 F9 N9 hne9 ho9
            obtain ⟨l9, rfl, S9⟩ := ho9
            (try k_sweep)
            (try dsimp only)
            (try k_fold)
            k_steps
            exact Mine.CutQ.intro (Mine.LawAt.intro tl9 (by k_asm) (by k_asm) (List.mem_append.mpr (.inr (.tail _ (List.mem_append.mpr (.inr (.tail _ (.head _))))))) (List.mem_append.mpr (.inr (.tail _ (List.mem_append.mpr (.inr (.head _)))))) (fun p hp => List.mem_append.mpr (.inl hp)) d1 d2 (by with_unfolding_all rfl) rfl ⟨l9, by with_unfolding_all rfl, by rw [Mine.powr, if_neg (by decide), if_neg (by decide)]; exact S9⟩)
      case G =>
        clear F' N' d1 d2 hI hD t1 t2
        intro s' hA
        obtain ⟨h8, tk8, m8, oK, oM, t1, t2, t3, led, rfl, F', N', d1, d2, hs, l, hl, hS⟩ := hA
        rw [Mine.frame_two hs hl] at F'
        clear hs hl
        refine Mine.cutX F' kind many size (Mine.DueX kind many size) ?H ?J
        case H =>
          (try dsimp only)
          (try k_fold)
          k_steps
          refine Mine.Halt.go ?_
          rename IsRange _ _ _ _ _ _ _ _ => lR
          rename Fr _ _ _ _ => lF
          rename News _ _ _ _ => lN
          refine Mine.ci_range (fun n => Mine.dueF kind many (n : Int)) (by rfl) lF lN lR (by omega) ?_ ?_
          · intro i t I oI C oC D1 ys m₂ h tk E' hi hC hx F1 N1
            clear lR lF lN
            k_steps
            · refine Mine.Halt.go ?_
              refine' Mine.fn_use (Mine.sq_fn _ _ _ _ _ _ _ _ (by omega) (by omega) bm) ?B ?F ?X ?N ?T ?K ?P ?D ?U ?_
              walk_at "mine_callA"
              case P => trivial
              case D => exact Mine.law_room5
              case U => exact Mine.law_units5
              intro r9 tl9 h9 tk9 F9 N9 hne9 ho9
              exact Mine.GiveN.intro (by rw [Mine.dueF, if_pos (by assumption)]; exact ho9) F9 N9
            · refine Mine.Halt.go ?_
              refine' Mine.fn_use (Mine.tri_fn _ _ _ _ _ _ _ _ (by omega) (by omega) bm) ?B ?F ?X ?N ?T ?K ?P ?D ?U ?_
              walk_at "mine_callA"
              case P => trivial
              case D => exact Mine.law_room5
              case U => exact Mine.law_units5
              intro r9 tl9 h9 tk9 F9 N9 hne9 ho9
              exact Mine.GiveN.intro (by rw [Mine.dueF, if_neg (by assumption)]; exact ho9) F9 N9
          · intro g9 ys hI9
            intro D1 h tk F1 N1 o1
            clear lR lF lN
            k_steps
            exact Mine.CutQ.intro (Mine.LawAt.intro ((D1, LCg.lst ys) :: led) F1 N1 (.tail _ (.tail _ (.head _))) (.tail _ (.head _)) (by walk_at "mine_sub") d1 d2 (by with_unfolding_all rfl) rfl ⟨l, D1, ys, _, by with_unfolding_all rfl, Mine.SerA.mono hS (fun p hp => .tail _ hp), by with_unfolding_all rfl, .head _, hI9⟩)
        case J =>
          clear F' N' d1 d2 hS t1 t2
          intro s' hA
          obtain ⟨h9, tk9, m9, oK, oM, t1, t2, t3, led, rfl, F', N', d1, d2, hs, l, D, vs, k, hl, hS, hd, hD, hI⟩ := hA
          rw [Mine.frame_three hs hl hd] at F'
          clear hs hl hd
          (try dsimp only)
          (try k_fold)
          k_steps
          refine Mine.Halt.go ?_
          rename Fr _ _ _ _ => F3
          rename News _ _ _ _ => N3
          refine Mine.ci_rats (by rfl) F3 N3 (.tail _ (.tail _ hD)) hI (by rw [Mine.dueL, List.length_map, List.length_range]; omega) ?_ ?_
          · intro a t I oI C oC D1 ys ms tl m₂ h tk E' ha hR hno hC hx F1 N1 off
            clear F3 N3
            k_steps
            rename_i Dn hn Fn Nn ln
            exact Mine.rat_turn Fn Nn ln off hno hR (.inr ⟨_, .tail _ (List.mem_append.mpr (.inr (.tail _ (.tail _ hD)))), rfl, _, rfl⟩)
          · intro g9 ys tl hR hno
            intro D1 h tk F1 N1 o1
            clear F3 N3
            k_steps
            obtain ⟨-, -, -, -, -, he, hlay⟩ := Mine.ok_facts (Mine.ok_of bk bm z1 z2)
            rw [he] at hS
            refine Mine.rats_eq hS (by k_asm) (by k_asm) N1 (by walk_at "mine_sub") hR (by walk_at "mine_sub") (by k_mem) hlay Mine.law_unitsE ?_
            k_steps
