import PyProof.Rows.All
import Wide.All
import OpenK.AllK
import Wide.FinOn
import PySem.Challenge.RW_pb0005_01
set_option Elab.async false
section
open PySem PySem.W PyProof.Rows
namespace Mine
def keepAt (l : List Stmt) (idx : List Nat) : List Stmt := idx.filterMap fun i => l[i]?
def view : Program := { PySem.Challenge.pw_pb0005_01 with main := { PySem.Challenge.pw_pb0005_01.main with body := keepAt PySem.Challenge.pw_pb0005_01.main.body [1, 2, 4, 6, 7, 8, 9, 10, 11, 12, 13, 14, 15, 17, 19, 20, 21, 22, 23, 24, 25, 26, 27, 28] } }
local macro_rules | `(tactic| o_head $H) => `(tactic| (
  refine holds_open (q := view) (loose := [Str.ofString "Limits"]) (Xt := fun s => xlAt view [] s && recOk (RowW.records (OpenRow.toRowW (OpenLaw.row PySem.Challenge.rw_pb0005_01))) s) (XP := XL view []) (Yf := Hook.obs $H) (Ya := Hook.val $H) (YP := Hook.says $H) (N := 3298) ?hl (Hook.of $H) (Hook.keeps $H) (fun s e => xl_of s (Bool.and_eq_true_iff.mp e).1) XL.keeps (by rfl) (by rfl) (by rfl) (fun s e => recFacts_of (Bool.and_eq_true_iff.mp e).2) (by rfl) (by first | assumption | decide +kernel) (by decide +kernel) ⟨rfl, rfl, rfl, rfl, rfl, by decide +kernel⟩ ?hw ?hc
  case hl => (intro w; kernel_rfl!)))
set_option maxRecDepth 100000 in
set_option maxHeartbeats 8000000 in
open_top hd for PySem.Challenge.rw_pb0005_01
end Mine
end
section
open PySem PySem.W PyProof.Rows PySem.Calls PyProof.V PySem.Spec
set_option maxRecDepth 100000
namespace Mine

section
variable {prog : Program} {w : World} {A : Around} {E : Value → Shared → Prop} {s : Shared} {env : Env} {h₀ : Heap}

inductive TurnNextG (h₀ : Heap) (L : Addr) (own : List (Addr × Obj)) (Jn : (Str → Option Value) → List (Addr × Obj) → Prop) (gs : Array GenState) (dr : Drawn) (os : OsState) (s₂ : Shared) : Prop
  | mk (h' : Heap) (tk : Nat) (m' : Str → Option Value) (nx : List (Addr × Obj)) (e : s₂ = ⟨h', gs, dr, tk, os⟩) (F : Fr h₀ L h' m') (N : News h₀ L h' (nx ++ own)) (off : ∀ q ∈ nx, ∀ p ∈ own, q.1 ≠ p.1) (hJ : Jn m' nx) : TurnNextG h₀ L own Jn gs dr os s₂
abbrev TurnNext (h₀ : Heap) (L : Addr) (own : List (Addr × Obj)) (Jn : (Str → Option Value) → List (Addr × Obj) → Prop) (s : Shared) (s₂ : Shared) : Prop := TurnNextG h₀ L own Jn s.gens s.drawn s.os s₂
def TurnOut (h₀ : Heap) (L : Addr) (own : List (Addr × Obj)) (Jn : (Str → Option Value) → List (Addr × Obj) → Prop) (s : Shared) (Q : Flow → Shared → Prop) (f : Flow) (s₂ : Shared) : Prop :=
  match f with
  | .ret v => Q (.ret v) s₂
  | .brk => Q .next s₂
  | .next | .cont => TurnNext h₀ L own Jn s s₂

theorem news_sub {L : Addr} {h : Heap} {a b : List (Addr × Obj)} (N : News h₀ L h b) (hs : ∀ p ∈ a, p ∈ b) : News h₀ L h a := fun p hp => N p (hs p hp)

theorem code_for {target : Expr} {body : List Stmt} {I : Addr} {fp : List Addr} {n : Nat} {P : Nat → Value → Prop} {St : Nat → Heap → Prop} {m₀ : Str → Option Value} {news : List (Addr × Obj)} {R : Result → Shared → Prop} {Q : Flow → Shared → Prop}
    (W : Walks prog w A I fp [I] n P St) (hob : ∀ i h, St i h → ∃ o, h.get? I = some o)
    (hgo : ∀ i (s' : Shared) v (Q' : Unit → Shared → Prop) E', St i s'.heap → Q' () s' → wpAny (model prog w) A (letOwnedTupleGo target (.ref I) v) Q' E' s')
    (J : Nat → (Str → Option Value) → List (Addr × Obj) → Prop)
    (hfix : ∀ b ∈ fp, b ≠ I → ∃ o, ∀ i m nx, J i m nx → (b, o) ∈ nx)
    (hL : env.locals ≠ I) (hI : h₀.get? I = none) (hnI : ∀ p ∈ news, p.1 ≠ I)
    (hst : St 0 s.heap) (F : Fr h₀ env.locals s.heap m₀) (N : News h₀ env.locals s.heap news) (hj : J 0 m₀ news)
    (turn : ∀ i v m₁ nx h tk own, i < n → P i v → (∀ q ∈ nx, ∀ p ∈ own, q.1 ≠ p.1) → J i m₁ nx → Fr h₀ env.locals h m₁ → News h₀ env.locals h (nx ++ own) →
      wpAny (model prog w) A (assign target env v) (fun _ s₂ => wpAny (model prog w) A (execs body env) (TurnOut h₀ env.locals own (J (i + 1)) { s with heap := h, toks := tk } Q) (notedBy (model prog w) A env fun e s' => R (.error e) s') s₂) (notedBy (model prog w) A env fun e s' => R (.error e) s') { s with heap := h, toks := tk })
    (done : ∀ m₁ nx h tk, J n m₁ nx → Fr h₀ env.locals h m₁ → News h₀ env.locals h nx → Q .next { s with heap := h, toks := tk })
    (hR : ∀ f s', Q f s' → R (.ok f) s') :
    codeAny (model prog w) A (.forLoop target (.ref I) body [] env) R s := by
  refine codeAny_forLoop_any
    (fun k s' => ∃ h' tk m' nx i, s' = { s with heap := h', toks := tk } ∧ St i h' ∧ Fr h₀ env.locals h' m' ∧ News h₀ env.locals h' nx ∧ (∀ p ∈ nx, p.1 ≠ I) ∧ J i m' nx ∧ i ≤ n ∧ k = n + 1 - i) ?_ (n + 1)
    ⟨s.heap, s.toks, m₀, news, 0, rfl, hst, F, N, hnI, hj, Nat.zero_le _, rfl⟩
  rintro k s' ⟨h', tk, m', nx, i, rfl, hst', F', N', hn', hJ, hi, rfl⟩
  have carry : ∀ h₁ : Heap, (∀ b o, b ∉ [I] → h'.get? b = some o → h₁.get? b = some o) → Fr h₀ env.locals h₁ m' ∧ News h₀ env.locals h₁ nx := fun h₁ hk => by
    have hk' : ∀ b o, b ≠ I → h'.get? b = some o → h₁.get? b = some o := fun b o hb => hk b o (by simpa using hb)
    exact ⟨⟨F'.ns.at' fun o e => hk' _ o hL e, fun b o e => hk' b o (fun q => by rw [q, hI] at e; cases e) (F'.keep b o e), F'.above⟩, fun p hp => ⟨hk' _ _ (hn' p hp) (N' p hp).1, (N' p hp).2⟩⟩
  by_cases hlt : i < n
  · refine W.item i _ _ _ hlt hst' fun v h₁ tk₁ hP hst₁ hk₁ => ?_
    obtain ⟨F₁, N₁⟩ := carry h₁ hk₁
    obtain ⟨oI, hoI⟩ := hob _ _ hst₁
    have hoff : ∀ q ∈ nx, ∀ p ∈ [(I, oI)], q.1 ≠ p.1 := fun q hq p hp => by rw [List.mem_singleton.mp hp]; exact hn' q hq
    have N₂ : News h₀ env.locals h₁ (nx ++ [(I, oI)]) := fun p hp => (List.mem_append.mp hp).elim (N₁ p) fun h => by rw [List.mem_singleton.mp h]; exact ⟨hoI, fun q => hL q.symm, hI⟩
    refine hgo (i + 1) _ v _ _ hst₁ ?_
    refine wpAny_mono (turn i v m' nx h₁ tk₁ [(I, oI)] hlt hP hoff hJ F₁ N₂) (fun _ s₂ h₂ => wpAny_mono h₂ (fun f s₃ h₃ => ?_) fun _ _ e => e) fun _ _ e => e
    have fin : TurnNext h₀ env.locals [(I, oI)] (J (i + 1)) s s₃ →
        ∃ k', k' < n + 1 - i ∧ ∃ h' tk m' nx i', s₃ = { s with heap := h', toks := tk } ∧ St i' h' ∧ Fr h₀ env.locals h' m' ∧ News h₀ env.locals h' nx ∧ (∀ p ∈ nx, p.1 ≠ I) ∧ J i' m' nx ∧ i' ≤ n ∧ k' = n + 1 - i' := by
      rintro ⟨h₄, tk₄, m₄, nx₄, rfl, F₄, N₄, hoff₄, hJ₄⟩
      refine ⟨n + 1 - (i + 1), by omega, h₄, tk₄, m₄, nx₄, i + 1, rfl, ?_, F₄, news_sub N₄ fun p hp => List.mem_append_left _ hp, fun p hp => hoff₄ p hp _ (.head _), hJ₄, hlt, rfl⟩
      refine W.frame _ _ _ hst₁ fun b hb o e => ?_
      by_cases hbI : b = I
      · subst hbI
        rw [hoI] at e
        cases e
        exact (N₄ _ (List.mem_append_right _ (.head _))).1
      · obtain ⟨o', ho'⟩ := hfix b hb hbI
        have e1 := (N₁ _ (ho' _ _ _ hJ)).1
        rw [e] at e1
        cases e1
        exact (N₄ _ (List.mem_append_left _ (ho' _ _ _ hJ₄))).1
    cases f with
    | ret v => exact hR _ _ h₃
    | brk => exact hR _ _ h₃
    | next => exact fin h₃
    | cont => exact fin h₃
  · have hin : i = n := by omega
    subst hin
    refine W.done _ _ _ hst' fun h₁ tk₁ hk₁ => wpAny_execs_nil ?_
    obtain ⟨F₁, N₁⟩ := carry h₁ hk₁
    exact hR _ _ (done m' nx h₁ tk₁ hJ F₁ N₁)

theorem new_off {L : Addr} {h : Heap} {m : Str → Option Value} {news : List (Addr × Obj)} (F : Fr h₀ L h m) (N : News h₀ L h news) : L ≠ h.objs.size ∧ h₀.get? h.objs.size = none ∧ ∀ p ∈ news, p.1 ≠ h.objs.size :=
  ⟨Nat.ne_of_lt F.ns.lt, next_is_new F, fun p hp => Nat.ne_of_lt (Heap.lt_size (N p hp).1)⟩

theorem for_list {target : Expr} {body : List Stmt} {l : Addr} {vs : List Value} {ln : Nat} {m₀ : Str → Option Value} {news : List (Addr × Obj)} {Q : Flow → Shared → Prop}
    (J : Nat → (Str → Option Value) → List (Addr × Obj) → Prop)
    (hh : A.handled = none) (F : Fr h₀ env.locals s.heap m₀) (N : News h₀ env.locals s.heap news) (hl : ∀ i m nx, J i m nx → (l, listOf vs.toArray ln) ∈ nx) (hj : J 0 m₀ news)
    (turn : ∀ i v m₁ nx h tk own, vs[i]? = some v → (∀ q ∈ nx, ∀ p ∈ own, q.1 ≠ p.1) → J i m₁ nx → Fr h₀ env.locals h m₁ → News h₀ env.locals h (nx ++ own) →
      wpAny (model prog w) A (assign target env v) (fun _ s₂ => wpAny (model prog w) A (execs body env) (TurnOut h₀ env.locals own (J (i + 1)) { s with heap := h, toks := tk } Q) E s₂) E { s with heap := h, toks := tk })
    (done : ∀ m₁ nx h tk, J vs.length m₁ nx → Fr h₀ env.locals h m₁ → News h₀ env.locals h nx → Q .next { s with heap := h, toks := tk })
    (hE : PassesOwn (model prog w) A env E) :
    wpAny (model prog w) A (pyIter (.ref l)) (fun it s₂ => codeAny (model prog w) A (.forLoop target it body [] env) (fun r s' => match r with | .ok f => Q f s' | .error e => cameBackBy (model prog w) A env E e s') s₂) E s := by
  have hls : s.heap.IsList l vs.toArray := ⟨_, (N _ (hl _ _ _ hj)).1, rfl, ln, rfl⟩
  obtain ⟨nL, nI, nn⟩ := new_off F N
  refine wpAny_pyIter_list hls ?_
  have hne : l ≠ s.heap.objs.size := nn _ (hl _ _ _ hj)
  have W := Walks.list (prog := prog) (w := w) hh s.heap.objs.size l hne vs.toArray
  have hlen : vs.toArray.size = vs.length := by simp
  rw [hlen] at W
  refine code_for (s := { s with heap := s.heap.push { cls := .type "list_iterator", data := .fields #[.ref l, .int 0 0] } }) (Q := Q) W (fun i h st => let ⟨⟨o, ho, _⟩, _⟩ := st; ⟨o, ho⟩) (fun i s' v Q' E' st hq => letGo_listiter st.1 hq) J ?_ nL nI nn
    ⟨⟨_, Heap.get?_push_size _ rfl, rfl, rfl⟩, hls.at fun o e => Heap.get?_push_of_some _ e⟩ (F.push _) (fun p hp => ⟨Heap.get?_push_of_some _ (N p hp).1, (N p hp).2⟩) hj ?_ done fun _ _ q => q
  · intro b hb hbI
    rcases List.mem_cons.mp hb with e | hb
    · exact absurd e hbI
    · rw [List.mem_singleton.mp hb]
      exact ⟨_, fun i m nx h => hl i m nx h⟩
  · intro i v m₁ nx h tk own _ hP hoff hJ F₁ N₁
    have hv : vs[i]? = some v := by simpa using hP
    exact wpAny_mono (turn i v m₁ nx h tk own hv hoff hJ F₁ N₁) (fun _ _ x => wpAny_passesOwn hE x) hE

theorem letGo_rangeiter {target : Expr} {I : Addr} {x left step : Int} {v : Value} {Q' : Unit → Shared → Prop} {s' : Shared} {E' : Value → Shared → Prop} (hit : IsRangeIter s'.heap I x left step) (h : Q' () s') :
    wpAny (model prog w) A (letOwnedTupleGo target (.ref I) v) Q' E' s' := by
  unfold letOwnedTupleGo
  cases target <;> first
    | exact wpAny_pure h
    | (cases v <;> first
        | exact wpAny_pure h
        | (refine wpAny_bind (wpAny_load hit ?_)
           exact wpAny_pure h))

theorem for_range {target : Expr} {body : List Stmt} {r : Addr} {a₀ b₀ : Int} {t₀ u₀ v₀ : Tok} {n : Nat} {m₀ : Str → Option Value} {news : List (Addr × Obj)} {Q : Flow → Shared → Prop}
    (J : Nat → (Str → Option Value) → List (Addr × Obj) → Prop)
    (hh : A.handled = none) (hr : IsRange s.heap r a₀ b₀ 1 t₀ u₀ v₀) (hsmall : Builtin.Range.small a₀ b₀ 1 = true) (hn : Builtin.Range.rangeSize a₀ b₀ 1 = (n : Int))
    (F : Fr h₀ env.locals s.heap m₀) (N : News h₀ env.locals s.heap news) (hj : J 0 m₀ news)
    (turn : ∀ i t m₁ nx h tk own, i < n → (∀ q ∈ nx, ∀ p ∈ own, q.1 ≠ p.1) → J i m₁ nx → Fr h₀ env.locals h m₁ → News h₀ env.locals h (nx ++ own) →
      wpAny (model prog w) A (assign target env (.int (a₀ + (i : Int)) t)) (fun _ s₂ => wpAny (model prog w) A (execs body env) (TurnOut h₀ env.locals own (J (i + 1)) { s with heap := h, toks := tk } Q) E s₂) E { s with heap := h, toks := tk })
    (done : ∀ m₁ nx h tk, J n m₁ nx → Fr h₀ env.locals h m₁ → News h₀ env.locals h nx → Q .next { s with heap := h, toks := tk })
    (hE : PassesOwn (model prog w) A env E) :
    wpAny (model prog w) A (pyIter (.ref r)) (fun it s₂ => codeAny (model prog w) A (.forLoop target it body [] env) (fun r s' => match r with | .ok f => Q f s' | .error e => cameBackBy (model prog w) A env E e s') s₂) E s := by
  obtain ⟨nL, nI, nn⟩ := new_off F N
  refine wpAny_pyIter_range hr hsmall ?_
  have W := Walks.range (prog := prog) (w := w) (A := A) hh s.heap.objs.size a₀ 1 n
  refine code_for (s := { s with heap := s.heap.push { cls := .type "range_iterator", data := .fields #[rawInt a₀, rawInt (Builtin.Range.rangeSize a₀ b₀ 1), rawInt 1] } }) (Q := Q) W (fun i h st => ⟨_, st⟩) (fun i s' v Q' E' st hq => letGo_rangeiter st hq) J ?_ nL nI nn
    (by rw [hn]; simpa using Heap.get?_push_size s.heap (o := { cls := .type "range_iterator", data := .fields #[rawInt a₀, rawInt (n : Int), rawInt 1] }) rfl) (F.push _) (fun p hp => ⟨Heap.get?_push_of_some _ (N p hp).1, (N p hp).2⟩) hj ?_ done fun _ _ q => q
  · intro b hb hbI
    exact absurd (List.mem_singleton.mp hb) hbI
  · intro i v m₁ nx h tk own hi hP hoff hJ F₁ N₁
    obtain ⟨t, rfl⟩ := hP
    rw [Int.mul_one]
    exact wpAny_mono (turn i t m₁ nx h tk own hi hoff hJ F₁ N₁) (fun _ _ x => wpAny_passesOwn hE x) hE
end
end Mine
end
section
open PySem PySem.W PyProof.Rows PySem.Calls PyProof.V PySem.Spec
set_option maxRecDepth 100000
namespace Mine

def NsO (o : Obj) (m : Str → Option Value) : Prop := ∃ es ep, o.data = .dict es ep ∧ StrKeys es ∧ ∀ name, nsFind es name = m name
theorem NsO.ns {o : Obj} {m : Str → Option Value} (x : NsO o m) {h : Heap} {a : Addr} (e : h.get? a = some o) : h.Ns a m :=
  let ⟨es, ep, a1, a2, a3⟩ := x; ⟨o, es, ep, e, a1, a2, a3⟩
theorem nsO_of {h : Heap} {a : Addr} {m : Str → Option Value} (x : h.Ns a m) : ∃ o, h.get? a = some o ∧ NsO o m :=
  let ⟨o, es, ep, e, a1, a2, a3⟩ := x; ⟨o, e, es, ep, a1, a2, a3⟩

section
variable {prog : Program} {w : World} {A : Around} {E : Value → Shared → Prop} {s : Shared} {env : Env} {h₀ : Heap}

def TurnIs (c : Code) (target : Expr) (iter : Expr) (ifs : List Expr) (it : Value) (cenv : Env) (emit : Sem Unit) : Prop :=
  match c with
  | .compLoop e d it' acc env' => it' = it ∧ env' = cenv ∧ compTurn e d it acc cenv = (do
      standAt iter.pos
      match ← pyNext it with
      | none => pure (.done .next)
      | some v =>
        letOwnedTupleGo target it v
        assign target cenv v
        let mut ok := true
        for c in ifs do
          if ok then ok ← isTrue c cenv (eval c cenv)
        if ok then emit
        again c)
  | _ => False

theorem code_turns {R : Result → Shared → Prop} {e : Expr} {d : Nat} {it acc : Value} {cenv : Env} {target iter : Expr} {ifs : List Expr} {emit : Sem Unit} (hfr : (Code.compLoop e d it acc cenv).isFrame = false)
    (ht : TurnIs (.compLoop e d it acc cenv) target iter ifs it cenv emit) (I : Nat → Shared → Prop)
    (turn : ∀ n s, I n s → wpAny (model prog w) A (pyNext it) (fun r s₁ => match r with
      | none => R (.ok .next) s₁
      | some v => wpAny (model prog w) A (letOwnedTupleGo target it v) (fun _ s₁' => wpAny (model prog w) A (assign target cenv v) (fun _ s₂ =>
          wpAny (model prog w) A (forIn ifs true fun c r => if r = true then do let ok ← isTrue c cenv (eval c cenv); pure (ForInStep.yield ok) else pure (ForInStep.yield r)) (fun ok s₃ =>
            if ok = true then wpAny (model prog w) A emit (fun _ s₄ => ∃ m, m < n ∧ I m s₄) (fun _ _ => False) s₃
            else ∃ m, m < n ∧ I m s₃) (fun _ _ => False) s₂) (fun _ _ => False) s₁') (fun _ _ => False) s₁) (fun _ _ => False) s)
    (n : Nat) (h : I n s) (hu : A.under (.compLoop e d it acc cenv) = A := by rfl) :
    codeAny (model prog w) A (.compLoop e d it acc cenv) R s := by
  refine codeAny_loop rfl I (fun n s hI => ?_) n h
  rw [hu]
  show wpAny _ A (if (Code.compLoop e d it acc cenv).isFrame then _ else _) _ _ s
  rw [hfr]
  show wpAny _ A ((compTurn e d it acc cenv).onRaise (fun x => do noteFrame x cenv; theTreesLotGoes x)) _ _ s
  refine wpAny_noted (wpAny_noRaise ?_)
  rw [ht.2.2]
  refine wpAny_bind (wpAny_standAt (wpAny_bind (wpAny_mono (turn n s hI) (fun r s₁ h₁ => ?_) fun _ _ h' => h')))
  cases r with
  | none => exact wpAny_pure h₁
  | some v =>
    refine wpAny_bind (wpAny_mono h₁ (fun _ s₁' h₁' => ?_) fun _ _ h' => h')
    refine wpAny_bind (wpAny_mono h₁' (fun _ s₂ h₂ => wpAny_bind (wpAny_mono h₂ (fun ok s₃ h₃ => ?_) fun _ _ h' => h')) fun _ _ h' => h')
    cases ok with
    | false => exact wpAny_pure ⟨rfl, h₃⟩
    | true => exact wpAny_bind (wpAny_mono h₃ (fun _ s₄ h₄ => wpAny_pure ⟨rfl, h₄⟩) fun _ _ h' => h')
end

section
variable {prog : Program} {w : World} {A : Around} {E : Value → Shared → Prop} {s : Shared} {env : Env} {h₀ : Heap}

abbrev Led := List (Addr × Obj)
abbrev blk (C : Addr) (oC : Obj) (D : Addr) (ys : List Value) (k : Nat) (ow : Led) : Led := (C, oC) :: (D, listOf ys.toArray k) :: ow
def Off (nx bl : Led) : Prop := ∀ q ∈ nx, ∀ p ∈ bl, q.1 ≠ p.1

inductive CHeadG (h₀ : Heap) (L : Addr) (m : Str → Option Value) (C D : Addr) (ow : Led) (Jn : (Str → Option Value) → List Value → Led → Prop) (gs : Array GenState) (dr : Drawn) (os : OsState) (s₂ : Shared) : Prop
  | mk (h : Heap) (tk : Nat) (nx : Led) (oC : Obj) (cm : Str → Option Value) (ys : List Value) (k : Nat) (e : s₂ = ⟨h, gs, dr, tk, os⟩) (F : Fr h₀ L h m) (N : News h₀ L h (nx ++ blk C oC D ys k ow)) (off : Off nx (blk C oC D ys k ow)) (hns : NsO oC cm) (hJ : Jn cm ys nx) : CHeadG h₀ L m C D ow Jn gs dr os s₂
abbrev CHead (h₀ : Heap) (L : Addr) (m : Str → Option Value) (C D : Addr) (ow : Led) (s : Shared) (Jn : (Str → Option Value) → List Value → Led → Prop) (s₂ : Shared) : Prop := CHeadG h₀ L m C D ow Jn s.gens s.drawn s.os s₂

inductive CStayG (h₀ : Heap) (L : Addr) (m : Str → Option Value) (bl : Led) (Jn : Led → Prop) (gs : Array GenState) (dr : Drawn) (os : OsState) (s₂ : Shared) : Prop
  | mk (h : Heap) (tk : Nat) (nx : Led) (e : s₂ = ⟨h, gs, dr, tk, os⟩) (F : Fr h₀ L h m) (N : News h₀ L h (nx ++ bl)) (off : Off nx bl) (hJ : Jn nx) : CStayG h₀ L m bl Jn gs dr os s₂
abbrev CStay (h₀ : Heap) (L : Addr) (m : Str → Option Value) (bl : Led) (s : Shared) (Jn : Led → Prop) (s₂ : Shared) : Prop := CStayG h₀ L m bl Jn s.gens s.drawn s.os s₂

theorem code_comp {R : Result → Shared → Prop} {e : Expr} {d : Nat} {acc : Value} {cenv : Env} {target iter : Expr} {ifs : List Expr} {emit : Sem Unit} {L C D I : Addr} {fp : List Addr} {n : Nat} {P : Nat → Value → Prop} {St : Nat → Heap → Prop} {m : Str → Option Value} {ow : Led}
    (hfr : (Code.compLoop e d (.ref I) acc cenv).isFrame = false) (ht : TurnIs (.compLoop e d (.ref I) acc cenv) target iter ifs (.ref I) cenv emit)
    (W : Walks prog w A I fp [I] n P St) (hob : ∀ i h, St i h → ∃ o, h.get? I = some o)
    (hgo : ∀ i (s' : Shared) v (Q' : Unit → Shared → Prop) E', St i s'.heap → Q' () s' → wpAny (model prog w) A (letOwnedTupleGo target (.ref I) v) Q' E' s')
    (J : Nat → (Str → Option Value) → List Value → Led → Prop)
    (hfix : ∀ b ∈ fp, b ≠ I → ∃ o, (b, o) ∈ ow ∨ ∀ i cm ys nx, J i cm ys nx → (b, o) ∈ nx)
    (hCI : C ≠ I) (hDI : D ≠ I) (hLI : L ≠ I) (hI : h₀.get? I = none) (how : ∀ p ∈ ow, p.1 ≠ I) (hst : St 0 s.heap)
    {nx₀ : Led} {oC₀ : Obj} {cm₀ : Str → Option Value} {ys₀ : List Value} {k₀ : Nat} (F : Fr h₀ L s.heap m) (N : News h₀ L s.heap (nx₀ ++ blk C oC₀ D ys₀ k₀ ow)) (hoff : Off nx₀ (blk C oC₀ D ys₀ k₀ ow)) (hnI : ∀ q ∈ nx₀, q.1 ≠ I) (hns : NsO oC₀ cm₀) (hj : J 0 cm₀ ys₀ nx₀)
    (turn : ∀ i v h tk nx oC cm ys k oI, i < n → P i v → Fr h₀ L h m → News h₀ L h (nx ++ blk C oC D ys k ((I, oI) :: ow)) → Off nx (blk C oC D ys k ((I, oI) :: ow)) → NsO oC cm → J i cm ys nx →
      wpAny (model prog w) A (assign target cenv v) (fun _ s₂ =>
        wpAny (model prog w) A (forIn ifs true fun c r => if r = true then do let ok ← isTrue c cenv (eval c cenv); pure (ForInStep.yield ok) else pure (ForInStep.yield r)) (fun ok s₃ =>
          if ok = true then wpAny (model prog w) A emit (fun _ s₄ => CHead h₀ L m C D ((I, oI) :: ow) s (J (i + 1)) s₄) (fun _ _ => False) s₃
          else CHead h₀ L m C D ((I, oI) :: ow) s (J (i + 1)) s₃) (fun _ _ => False) s₂) (fun _ _ => False) { s with heap := h, toks := tk })
    (done : ∀ h tk nx oC cm ys k, Fr h₀ L h m → News h₀ L h (nx ++ blk C oC D ys k ow) → Off nx (blk C oC D ys k ow) → NsO oC cm → J n cm ys nx → R (.ok .next) { s with heap := h, toks := tk })
    (hu : A.under (.compLoop e d (.ref I) acc cenv) = A := by rfl) :
    codeAny (model prog w) A (.compLoop e d (.ref I) acc cenv) R s := by
  refine code_turns hfr ht
    (fun k' s' => ∃ h tk nx oC cm ys k i, s' = { s with heap := h, toks := tk } ∧ St i h ∧ Fr h₀ L h m ∧ News h₀ L h (nx ++ blk C oC D ys k ow) ∧ Off nx (blk C oC D ys k ow) ∧ (∀ q ∈ nx, q.1 ≠ I) ∧ NsO oC cm ∧ J i cm ys nx ∧ i ≤ n ∧ k' = n + 1 - i) ?_ (n + 1)
    ⟨s.heap, s.toks, nx₀, oC₀, cm₀, ys₀, k₀, 0, rfl, hst, F, N, hoff, hnI, hns, hj, Nat.zero_le _, rfl⟩ hu
  rintro k' s' ⟨h, tk, nx, oC, cm, ys, k, i, rfl, hst', F', N', hoff', hn', hns', hJ, hi, rfl⟩
  have allI : ∀ p ∈ nx ++ blk C oC D ys k ow, p.1 ≠ I := fun p hp => by
    rcases List.mem_append.mp hp with hp | hp
    · exact hn' p hp
    · rcases List.mem_cons.mp hp with rfl | hp
      · exact hCI
      · rcases List.mem_cons.mp hp with rfl | hp
        · exact hDI
        · exact how p hp
  have carry : ∀ h₁ : Heap, (∀ b o, b ∉ [I] → h.get? b = some o → h₁.get? b = some o) → Fr h₀ L h₁ m ∧ News h₀ L h₁ (nx ++ blk C oC D ys k ow) := fun h₁ hk => by
    have hk' : ∀ b o, b ≠ I → h.get? b = some o → h₁.get? b = some o := fun b o hb => hk b o (by simpa using hb)
    exact ⟨⟨F'.ns.at' fun o e => hk' _ o hLI e, fun b o e => hk' b o (fun q => by rw [q, hI] at e; cases e) (F'.keep b o e), F'.above⟩, fun p hp => ⟨hk' _ _ (allI p hp) (N' p hp).1, (N' p hp).2⟩⟩
  by_cases hlt : i < n
  · refine W.item i _ _ _ hlt hst' fun v h₁ tk₁ hP hst₁ hk₁ => ?_
    obtain ⟨F₁, N₁⟩ := carry h₁ hk₁
    obtain ⟨oI, hoI⟩ := hob _ _ hst₁
    have N₂ : News h₀ L h₁ (nx ++ blk C oC D ys k ((I, oI) :: ow)) := fun p hp => by
      rcases List.mem_append.mp hp with hp | hp
      · exact N₁ p (List.mem_append_left _ hp)
      · rcases List.mem_cons.mp hp with rfl | hp
        · exact N₁ _ (List.mem_append_right _ (.head _))
        · rcases List.mem_cons.mp hp with rfl | hp
          · exact N₁ _ (List.mem_append_right _ (.tail _ (.head _)))
          · rcases List.mem_cons.mp hp with rfl | hp
            · exact ⟨hoI, fun q => hLI q.symm, hI⟩
            · exact N₁ _ (List.mem_append_right _ (.tail _ (.tail _ hp)))
    have hoff₂ : Off nx (blk C oC D ys k ((I, oI) :: ow)) := fun q hq p hp => by
      rcases List.mem_cons.mp hp with rfl | hp
      · exact hoff' q hq _ (.head _)
      · rcases List.mem_cons.mp hp with rfl | hp
        · exact hoff' q hq _ (.tail _ (.head _))
        · rcases List.mem_cons.mp hp with rfl | hp
          · exact hn' q hq
          · exact hoff' q hq _ (.tail _ (.tail _ hp))
    have fin : ∀ s₄, CHead h₀ L m C D ((I, oI) :: ow) s (J (i + 1)) s₄ →
        ∃ m₁, m₁ < n + 1 - i ∧ ∃ h tk nx oC cm ys k i', s₄ = { s with heap := h, toks := tk } ∧ St i' h ∧ Fr h₀ L h m ∧ News h₀ L h (nx ++ blk C oC D ys k ow) ∧ Off nx (blk C oC D ys k ow) ∧ (∀ q ∈ nx, q.1 ≠ I) ∧ NsO oC cm ∧ J i' cm ys nx ∧ i' ≤ n ∧ m₁ = n + 1 - i' := by
      rintro s₄ ⟨h₄, tk₄, nx₄, oC₄, cm₄, ys₄, k₄, rfl, F₄, N₄, hoff₄, hns₄, hJ₄⟩
      have sub : ∀ p ∈ nx₄ ++ blk C oC₄ D ys₄ k₄ ow, p ∈ nx₄ ++ blk C oC₄ D ys₄ k₄ ((I, oI) :: ow) := fun p hp => by
        rcases List.mem_append.mp hp with hp | hp
        · exact List.mem_append_left _ hp
        · refine List.mem_append_right _ ?_
          rcases List.mem_cons.mp hp with rfl | hp
          · exact .head _
          · rcases List.mem_cons.mp hp with rfl | hp
            · exact .tail _ (.head _)
            · exact .tail _ (.tail _ (.tail _ hp))
      refine ⟨n + 1 - (i + 1), by omega, h₄, tk₄, nx₄, oC₄, cm₄, ys₄, k₄, i + 1, rfl, ?_, F₄, news_sub N₄ sub, fun q hq p hp => ?_, fun q hq => hoff₄ q hq _ (.tail _ (.tail _ (.head _))), hns₄, hJ₄, hlt, rfl⟩
      · refine W.frame _ _ _ hst₁ fun b hb o e => ?_
        by_cases hbI : b = I
        · subst hbI
          rw [hoI] at e
          cases e
          exact (N₄ _ (List.mem_append_right _ (.tail _ (.tail _ (.head _))))).1
        · obtain ⟨o', ho'⟩ := hfix b hb hbI
          rcases ho' with ho' | ho'
          · have e1 := (N₁ _ (List.mem_append_right _ (.tail _ (.tail _ ho')))).1
            rw [e] at e1
            cases e1
            exact (N₄ _ (List.mem_append_right _ (.tail _ (.tail _ (.tail _ ho'))))).1
          · have e1 := (N₁ _ (List.mem_append_left _ (ho' _ _ _ _ hJ))).1
            rw [e] at e1
            cases e1
            exact (N₄ _ (List.mem_append_left _ (ho' _ _ _ _ hJ₄))).1
      · rcases List.mem_cons.mp hp with rfl | hp
        · exact hoff₄ q hq _ (.head _)
        · rcases List.mem_cons.mp hp with rfl | hp
          · exact hoff₄ q hq _ (.tail _ (.head _))
          · exact hoff₄ q hq _ (.tail _ (.tail _ (.tail _ hp)))
    refine hgo (i + 1) _ v _ _ hst₁ ?_
    refine wpAny_mono (turn i v h₁ tk₁ nx oC cm ys k oI hlt hP F₁ N₂ hoff₂ hns' hJ) (fun _ s₂ h₂ => wpAny_mono h₂ (fun ok s₃ h₃ => ?_) fun _ _ e => e) fun _ _ e => e
    cases ok with
    | true =>
      rw [if_pos rfl] at h₃ ⊢
      exact wpAny_mono h₃ (fun _ s₄ h₄ => fin s₄ h₄) fun _ _ e => e
    | false =>
      rw [if_neg Bool.false_ne_true] at h₃ ⊢
      exact fin s₃ h₃
  · have hin : i = n := by omega
    subst hin
    refine W.done _ _ _ hst' fun h₁ tk₁ hk₁ => ?_
    obtain ⟨F₁, N₁⟩ := carry h₁ hk₁
    exact done h₁ tk₁ nx oC cm ys k F₁ N₁ hoff' hns' hJ
end

section
variable {prog : Program} {w : World} {A : Around} {E : Value → Shared → Prop} {s : Shared} {env : Env} {h₀ : Heap} {L : Addr} {m : Str → Option Value} {C D : Addr} {ow : Led}

theorem blk_C {C D : Addr} {oC : Obj} {ys : List Value} {k : Nat} {ow nx : Led} : (C, oC) ∈ nx ++ blk C oC D ys k ow := List.mem_append_right _ (.head _)
theorem blk_D {C D : Addr} {oC : Obj} {ys : List Value} {k : Nat} {ow nx : Led} : (D, listOf ys.toArray k) ∈ nx ++ blk C oC D ys k ow := List.mem_append_right _ (.tail _ (.head _))
theorem blk_ow {C D : Addr} {oC : Obj} {ys : List Value} {k : Nat} {ow nx : Led} {p : Addr × Obj} (h : p ∈ ow) : p ∈ nx ++ blk C oC D ys k ow := List.mem_append_right _ (.tail _ (.tail _ h))
theorem blk_nx {C D : Addr} {oC : Obj} {ys : List Value} {k : Nat} {ow nx : Led} {p : Addr × Obj} (h : p ∈ nx) : p ∈ nx ++ blk C oC D ys k ow := List.mem_append_left _ h
theorem blk_cases {C D : Addr} {oC : Obj} {ys : List Value} {k : Nat} {ow nx : Led} {p : Addr × Obj} (h : p ∈ nx ++ blk C oC D ys k ow) : p ∈ nx ∨ p = (C, oC) ∨ p = (D, listOf ys.toArray k) ∨ p ∈ ow := by
  rcases List.mem_append.mp h with h | h
  · exact .inl h
  · rcases List.mem_cons.mp h with h | h
    · exact .inr (.inl h)
    · rcases List.mem_cons.mp h with h | h
      · exact .inr (.inr (.inl h))
      · exact .inr (.inr (.inr h))

structure BlkOk (C D : Addr) (ow : Led) : Prop where
  cd : C ≠ D
  c : ∀ p ∈ ow, p.1 ≠ C
  d : ∀ p ∈ ow, p.1 ≠ D

theorem off_C {oC oC' : Obj} {ys : List Value} {k : Nat} {nx : Led} (h : Off nx (blk C oC D ys k ow)) : Off nx (blk C oC' D ys k ow) := fun q hq p hp => by
  rcases List.mem_cons.mp hp with rfl | hp
  · exact h q hq (C, oC) (.head _)
  · exact h q hq p (.tail _ hp)
theorem off_D {oC : Obj} {ys ys' : List Value} {k k' : Nat} {nx : Led} (h : Off nx (blk C oC D ys k ow)) : Off nx (blk C oC D ys' k' ow) := fun q hq p hp => by
  rcases List.mem_cons.mp hp with rfl | hp
  · exact h q hq _ (.head _)
  · rcases List.mem_cons.mp hp with rfl | hp
    · exact h q hq (D, listOf ys.toArray k) (.tail _ (.head _))
    · exact h q hq p (.tail _ (.tail _ hp))

theorem blk_sameC {h h' : Heap} {oC oC' : Obj} {ys : List Value} {k : Nat} {nx : Led} (B : BlkOk C D ow) (F : Fr h₀ L h m) (N : News h₀ L h (nx ++ blk C oC D ys k ow)) (hoff : Off nx (blk C oC D ys k ow)) (hs : Heap.SameBut C h h') (ho : h'.get? C = some oC') :
    Fr h₀ L h' m ∧ News h₀ L h' (nx ++ blk C oC' D ys k ow) := by
  have hC := N _ blk_C
  refine ⟨⟨F.ns.at' fun o e => (hs.2 _ (Ne.symm hC.2.1)).trans e, fun b o e => (hs.2 b (fun q => by rw [q, hC.2.2] at e; cases e)).trans (F.keep b o e), F.above⟩, fun p hp => ?_⟩
  rcases blk_cases hp with hp | rfl | rfl | hp
  · have := N p (blk_nx hp)
    exact ⟨(hs.2 _ (hoff p hp _ (.head _))).trans this.1, this.2⟩
  · exact ⟨ho, hC.2⟩
  · have := N _ (blk_D (nx := nx) (oC := oC) (C := C) (D := D) (ys := ys) (k := k) (ow := ow))
    exact ⟨(hs.2 _ (Ne.symm B.cd)).trans this.1, this.2⟩
  · have := N p (blk_ow hp)
    exact ⟨(hs.2 _ (B.c p hp)).trans this.1, this.2⟩

theorem emit_last {elt : Expr} {cenv : Env} {oC : Obj} {cm : Str → Option Value} {ys : List Value} {k : Nat} {Jn : (Str → Option Value) → List Value → Led → Prop} {s₀ : Shared} (B : BlkOk C D ow) (hns : NsO oC cm) (hsz : ys.length ≤ 1000000)
    (h : wpAny (model prog w) A (eval elt cenv) (fun y s₂ => CStay h₀ L m (blk C oC D ys k ow) s₀ (Jn cm (ys ++ [y])) s₂) E s) :
    wpAny (model prog w) A (do let _ ← call (.builtin "list.append") [.ref D, ← eval elt cenv]; pure ()) (fun _ s₄ => CHead h₀ L m C D ow s₀ Jn s₄) E s := by
  refine wpAny_bind (wpAny_mono h (fun y s₂ h₂ => ?_) fun _ _ e => e)
  obtain ⟨h', tk, nx, rfl, F', N', hoff', hJ⟩ := h₂
  have hD := N' _ (blk_D (nx := nx) (oC := oC) (C := C) (D := D) (ys := ys) (k := k) (ow := ow))
  refine wpAny_bind (wpAny_list_append_plain (items := ys.toArray) (x := y) ⟨k, hD.1⟩ (fun h₁ hp₁ hs₁ => wpAny_pure ?_) (by rw [List.size_toArray, sizeLine_eq]; omega))
  obtain ⟨k', hk'⟩ := hp₁
  have ey : ys.toArray.push y = (ys ++ [y]).toArray := by simp
  rw [ey] at hk'
  refine ⟨h₁, tk, nx, oC, cm, ys ++ [y], k', rfl, ⟨F'.ns.at' fun o e => (hs₁.2 _ (Ne.symm hD.2.1)).trans e, fun b o e => (hs₁.2 b (fun q => by rw [q, hD.2.2] at e; cases e)).trans (F'.keep b o e), F'.above⟩, fun p hp => ?_, off_D hoff', hns, hJ⟩
  rcases blk_cases hp with hp | rfl | rfl | hp
  · have := N' p (blk_nx hp)
    exact ⟨(hs₁.2 _ (hoff' p hp _ (.tail _ (.head _)))).trans this.1, this.2⟩
  · have := N' _ (blk_C (nx := nx) (oC := oC) (C := C) (D := D) (ys := ys) (k := k) (ow := ow))
    exact ⟨(hs₁.2 _ B.cd).trans this.1, this.2⟩
  · exact ⟨hk', hD.2⟩
  · have := N' p (blk_ow hp)
    exact ⟨(hs₁.2 _ (B.d p hp)).trans this.1, this.2⟩

theorem cenv_plain {cenv : Env} (hk : cenv.scope.kind = .function) : (cenv.scope.kind == .class || (cenv.scope.kind == .module && cenv.locals != cenv.globals)) = false := by rw [hk]; rfl

theorem bind_name {cenv : Env} {x : Str} {px : Pos} {v : Value} {oC : Obj} {cm : Str → Option Value} {ys : List Value} {k : Nat} {nx : Led} {Q : Unit → Shared → Prop} (B : BlkOk cenv.locals D ow) (hk : cenv.scope.kind = .function) (hx : cenv.kindOf x = some .local)
    (F : Fr h₀ L s.heap m) (N : News h₀ L s.heap (nx ++ blk cenv.locals oC D ys k ow)) (hoff : Off nx (blk cenv.locals oC D ys k ow)) (hns : NsO oC cm)
    (h : ∀ h' oC', Fr h₀ L h' m → News h₀ L h' (nx ++ blk cenv.locals oC' D ys k ow) → Off nx (blk cenv.locals oC' D ys k ow) → NsO oC' (fun y => if y = x then some v else cm y) → Q () { s with heap := h', toks := s.toks + 1 }) :
    wpAny (model prog w) A (assign (.Name x px) cenv v) Q E s := by
  refine wpAny_assign_Name (wpAny_storeName_local hx (hns.ns (N _ blk_C).1) (fun h' hn' hs' => ?_) (cenv_plain hk))
  obtain ⟨oC', ho', hns'⟩ := nsO_of hn'
  obtain ⟨F', N'⟩ := blk_sameC B F N hoff hs' ho'
  exact h h' oC' F' N' (off_C hoff) hns'

theorem bind_pair {cenv : Env} {x y : Str} {px py pp : Pos} {kk : Nat} {t : Addr} {ot : Obj} {tn : Nat} {vx vy : Value} {oC : Obj} {cm : Str → Option Value} {ys : List Value} {k : Nat} {nx : Led} {Q : Unit → Shared → Prop} (hh : A.handled = none) (B : BlkOk cenv.locals D ow) (hk : cenv.scope.kind = .function) (hx : cenv.kindOf x = some .local) (hy : cenv.kindOf y = some .local)
    (F : Fr h₀ L s.heap m) (N : News h₀ L s.heap (nx ++ blk cenv.locals oC D ys k ow)) (hoff : Off nx (blk cenv.locals oC D ys k ow)) (hns : NsO oC cm) (ht : s.heap.get? t = some ot) (hc : ot.cls = .type "tuple") (hd : ot.data = .seq #[vx, vy] tn)
    (h : ∀ h' oC' tk, Fr h₀ L h' m → News h₀ L h' (nx ++ blk cenv.locals oC' D ys k ow) → Off nx (blk cenv.locals oC' D ys k ow) → NsO oC' (fun z => if z = y then some vy else if z = x then some vx else cm z) → Q () { s with heap := h', toks := tk }) :
    wpAny (model prog w) A (assign (.Tuple [.Name x px, .Name y py] kk pp) cenv (.ref t)) Q E s := by
  have hT : s.heap.IsTuple t #[vx, vy] := ⟨ot, ht, hc, tn, hd⟩
  refine wpAny_assign_Tuple hh hT rfl rfl fun h₁ he => ?_
  obtain ⟨nL, nI, nn⟩ := new_off F N
  have F₁ : Fr h₀ L h₁ m := ⟨F.ns.at' fun o e => he _ o nL e, fun b o e => he b o (fun q => by rw [q, nI] at e; cases e) (F.keep b o e), F.above⟩
  have N₁ : News h₀ L h₁ (nx ++ blk cenv.locals oC D ys k ow) := fun p hp => ⟨he _ _ (nn p hp) (N p hp).1, (N p hp).2⟩
  show wpAny (model prog w) A (assignInOrder [assign (.Name x px) cenv, assign (.Name y py) cenv] [vx, vy]) Q E _
  unfold assignInOrder
  refine wpAny_bind (wpAny_holding (bind_name (s := { s with heap := h₁ }) B hk hx F₁ N₁ hoff hns fun h₂ oC₂ F₂ N₂ hoff₂ hns₂ => ?_))
  unfold assignInOrder
  refine wpAny_bind (wpAny_holding (bind_name (s := { s with heap := h₂, toks := s.toks + 1 }) B hk hy F₂ N₂ hoff₂ hns₂ fun h₃ oC₃ F₃ N₃ hoff₃ hns₃ => ?_))
  unfold assignInOrder
  exact wpAny_pure (h h₃ oC₃ _ F₃ N₃ hoff₃ hns₃)
end

abbrev tests (ifs : List Expr) (cenv : Env) : Sem Bool := forIn ifs true fun c r => if r = true then do let ok ← isTrue c cenv (eval c cenv); pure (ForInStep.yield ok) else pure (ForInStep.yield r)

section
variable {prog : Program} {w : World} {A : Around} {E : Value → Shared → Prop} {s : Shared} {env : Env} {h₀ : Heap} {L : Addr} {m : Str → Option Value}

theorem comp_core {elt target iter : Expr} {ifs : List Expr} {scope : Scope} {cl : List (Str × Addr)} {pos : Pos} {RR : Value → Addr → Result → Shared → Prop} {I : Addr} {fp : List Addr} {n : Nat} {P : Nat → Value → Prop} {St : Nat → Heap → Prop} {news : Led}
    (W : Walks prog w A I fp [I] n P St) (hob : ∀ i h, St i h → ∃ o, h.get? I = some o)
    (hgo : ∀ i (s' : Shared) v (Q' : Unit → Shared → Prop) E', St i s'.heap → Q' () s' → wpAny (model prog w) A (letOwnedTupleGo target (.ref I) v) Q' E' s')
    (J : Nat → List Value → Led → Prop)
    (hfix : ∀ b ∈ fp, b ≠ I → ∃ o, ∀ i ys nx, J i ys nx → (b, o) ∈ nx)
    (hlen : ∀ i ys nx, J i ys nx → ys.length ≤ 1000000)
    (hLI : L ≠ I) (hI : h₀.get? I = none) (hIlt : I < s.heap.objs.size) (hst : St 0 s.heap)
    (F : Fr h₀ L s.heap m) (N : News h₀ L s.heap news) (hnI : ∀ q ∈ news, q.1 ≠ I) (hj : J 0 [] news)
    (hcell : ∀ y ∈ scope.names, y.2 ≠ .cell) (hkind : scope.kind = .function)
    (turn : ∀ C D i v h tk nx oC cm ys k oI, BlkOk C D [(I, oI)] → i < n → P i v → Fr h₀ L h m → News h₀ L h (nx ++ blk C oC D ys k [(I, oI)]) → Off nx (blk C oC D ys k [(I, oI)]) → NsO oC cm → J i ys nx →
      wpAny (model prog w) A (assign target (compEnvC scope cl C env) v) (fun _ s₂ => ∃ oC' cm', NsO oC' cm' ∧
        wpAny (model prog w) A (tests ifs (compEnvC scope cl C env)) (fun ok s₃ =>
          if ok = true then wpAny (model prog w) A (eval elt (compEnvC scope cl C env)) (fun y s₄ => CStay h₀ L m (blk C oC' D ys k [(I, oI)]) s (J (i + 1) (ys ++ [y])) s₄) (fun _ _ => False) s₃
          else CStay h₀ L m (blk C oC' D ys k [(I, oI)]) s (J (i + 1) ys) s₃) (fun _ _ => False) s₂) (fun _ _ => False) { s with heap := h, toks := tk })
    (done : ∀ C D h tk nx oC cm ys k, C ≠ D → (∀ p ∈ news, p.1 < D) → Fr h₀ L h m → News h₀ L h (nx ++ blk C oC D ys k []) → Off nx (blk C oC D ys k []) → NsO oC cm → J n ys nx → RR (.ref D) C (.ok .next) { s with heap := h, toks := tk })
    (hu : ∀ D C, A.under (.compLoop (.ListComp elt [⟨target, iter, ifs, 0⟩] scope pos) 0 (.ref I) (.ref D) (compEnvC scope cl C env)) = A := by intro _ _; rfl) :
    wpAny (model prog w) A (newList []) (fun acc s₃ => wpAny (model prog w) A (newFunctionEnv scope env.globals cl [] env.qual none .none (some env)) (fun cenv s₄ =>
      codeAny (model prog w) A (.compStart (.ListComp elt [⟨target, iter, ifs, 0⟩] scope pos) 0 (.ref I) acc { cenv with scope := relabel scope env }) (RR acc cenv.locals) s₄) E s₃) E s := by
  refine wpAny_newObj_type (wpAny_newFunctionEnv hcell (by intro y hy; simp at hy) (fun h₁ hns₁ hsb₁ => ?_) hkind)
  dsimp only at hns₁ hsb₁ ⊢
  generalize hH2 : s.heap.push { cls := .type "list", dict := none, data := .seq ([] : List Value).toArray } = H2 at hns₁ hsb₁ ⊢
  have hC : H2.objs.size = s.heap.objs.size + 1 := by rw [← hH2, Heap.size_push]
  have old : ∀ b o, s.heap.get? b = some o → h₁.get? b = some o := fun b o e =>
    hsb₁.extBut b o (by rw [hC]; exact Nat.ne_of_lt (Nat.lt_succ_of_lt (Heap.lt_size e))) (Heap.get?_push_of_some _ (hH2 ▸ Heap.get?_push_of_some _ e))
  have hDC : s.heap.objs.size ≠ H2.objs.size := by rw [hC]; exact Nat.ne_of_lt (Nat.lt_succ_self _)
  have hD₁ : h₁.get? s.heap.objs.size = some (listOf ([] : List Value).toArray 0) := hsb₁.extBut _ _ hDC (Heap.get?_push_of_some _ (hH2 ▸ Heap.get?_push_size _ rfl))
  obtain ⟨oC, hoC, hns⟩ := nsO_of hns₁
  have F₁ : Fr h₀ L h₁ m := ⟨F.ns.at' fun o e => old _ o e, fun b o e => old b o (F.keep b o e), F.above⟩
  have none_at : ∀ a, s.heap.objs.size ≤ a → h₀.get? a = none ∧ a ≠ L := fun a ha => by
    refine ⟨?_, fun q => absurd F.ns.lt (by rw [← q]; exact Nat.not_lt.mpr ha)⟩
    cases q : h₀.get? a with
    | none => rfl
    | some o => exact absurd (Heap.lt_size (F.keep _ _ q)) (Nat.not_lt.mpr ha)
  have hDn := none_at s.heap.objs.size (Nat.le_refl _)
  have hCn := none_at H2.objs.size (by rw [hC]; exact Nat.le_succ _)
  have nlt : ∀ p ∈ news, p.1 < s.heap.objs.size := fun p hp => Heap.lt_size (N p hp).1
  have N₁ : News h₀ L h₁ (news ++ blk H2.objs.size oC s.heap.objs.size [] 0 []) := fun p hp => by
    rcases blk_cases hp with hp | rfl | rfl | hp
    · exact ⟨old _ _ (N p hp).1, (N p hp).2⟩
    · exact ⟨hoC, hCn.2, hCn.1⟩
    · exact ⟨hD₁, hDn.2, hDn.1⟩
    · cases hp
  have hoff : Off news (blk H2.objs.size oC s.heap.objs.size [] 0 []) := fun q hq p hp => by
    rcases List.mem_cons.mp hp with rfl | hp
    · rw [hC]; exact Nat.ne_of_lt (Nat.lt_succ_of_lt (nlt q hq))
    · rcases List.mem_cons.mp hp with rfl | hp
      · exact Nat.ne_of_lt (nlt q hq)
      · cases hp
  have hst₁ : St 0 h₁ := W.frame _ _ _ hst fun b _ o e => old b o e
  have hCI : H2.objs.size ≠ I := by rw [hC]; exact Nat.ne_of_gt (Nat.lt_succ_of_lt hIlt)
  have hDI : s.heap.objs.size ≠ I := Nat.ne_of_gt hIlt
  have loop : codeAny (model prog w) A (.compLoop (.ListComp elt [⟨target, iter, ifs, 0⟩] scope pos) 0 (.ref I) (.ref s.heap.objs.size) (compEnvC scope cl H2.objs.size env))
      (RR (.ref s.heap.objs.size) H2.objs.size) { s with heap := h₁, toks := s.toks } := by
    refine code_comp (s := { s with heap := h₁, toks := s.toks }) (C := H2.objs.size) (D := s.heap.objs.size) (ow := []) (L := L) (m := m)
      (emit := do let _ ← call (.builtin "list.append") [.ref s.heap.objs.size, ← eval elt (compEnvC scope cl H2.objs.size env)]; pure ()) rfl ⟨rfl, rfl, rfl⟩ W hob hgo (fun i _ ys nx => J i ys nx) ?_ hCI hDI hLI hI (fun _ hp => nomatch hp) hst₁ F₁ N₁ hoff hnI hns hj ?_ ?_ (hu _ _)
    · intro b hb hbI
      obtain ⟨o, ho⟩ := hfix b hb hbI
      exact ⟨o, .inr fun i _ ys nx hJ => ho i ys nx hJ⟩
    · intro i v h tk nx oC cm ys k oI hi hP F' N' hoff' hns' hJ
      have B : BlkOk H2.objs.size s.heap.objs.size [(I, oI)] := ⟨Ne.symm hDC, fun p hp => by rw [List.mem_singleton.mp hp]; exact Ne.symm hCI, fun p hp => by rw [List.mem_singleton.mp hp]; exact Ne.symm hDI⟩
      refine wpAny_mono (turn _ _ i v h tk nx oC cm ys k oI B hi hP F' N' hoff' hns' hJ) (fun _ s₂ h₂ => ?_) fun _ _ e => e
      obtain ⟨oC', cm', hnsC, h₂⟩ := h₂
      refine wpAny_mono h₂ (fun ok s₃ h₃ => ?_) fun _ _ e => e
      cases ok with
      | true =>
        rw [if_pos rfl] at h₃ ⊢
        exact emit_last B hnsC (hlen _ _ _ hJ) h₃
      | false =>
        rw [if_neg Bool.false_ne_true] at h₃ ⊢
        obtain ⟨h', tk', nx', e, F'', N'', hoff'', hJ''⟩ := h₃
        exact ⟨h', tk', nx', oC', cm', ys, k, e, F'', N'', hoff'', hnsC, hJ''⟩
    · intro h tk nx oC cm ys k F' N' hoff' hns' hJ
      exact done _ _ h tk nx oC cm ys k (Ne.symm hDC) nlt F' N' hoff' hns' hJ
  exact codeAny_compStart_list loop (W.self 0 _ _ _ hst₁ loop)

theorem comp_list {elt target iter : Expr} {ifs : List Expr} {scope : Scope} {cl : List (Str × Addr)} {pos : Pos} {RR : Value → Addr → Result → Shared → Prop} {l : Addr} {vs : List Value} {ln : Nat} {news : Led}
    (hh : A.handled = none) (J : Nat → List Value → Led → Prop) (hl : ∀ i ys nx, J i ys nx → (l, listOf vs.toArray ln) ∈ nx) (hlen : ∀ i ys nx, J i ys nx → ys.length ≤ 1000000)
    (F : Fr h₀ L s.heap m) (N : News h₀ L s.heap news) (hj : J 0 [] news) (hcell : ∀ y ∈ scope.names, y.2 ≠ .cell) (hkind : scope.kind = .function)
    (turn : ∀ C D i v h tk nx oC cm ys k ow, BlkOk C D ow → vs[i]? = some v → Fr h₀ L h m → News h₀ L h (nx ++ blk C oC D ys k ow) → Off nx (blk C oC D ys k ow) → NsO oC cm → J i ys nx →
      wpAny (model prog w) A (assign target (compEnvC scope cl C env) v) (fun _ s₂ => ∃ oC' cm', NsO oC' cm' ∧
        wpAny (model prog w) A (tests ifs (compEnvC scope cl C env)) (fun ok s₃ =>
          if ok = true then wpAny (model prog w) A (eval elt (compEnvC scope cl C env)) (fun y s₄ => CStay h₀ L m (blk C oC' D ys k ow) s (J (i + 1) (ys ++ [y])) s₄) (fun _ _ => False) s₃
          else CStay h₀ L m (blk C oC' D ys k ow) s (J (i + 1) ys) s₃) (fun _ _ => False) s₂) (fun _ _ => False) { s with heap := h, toks := tk })
    (done : ∀ C D h tk nx oC cm ys k, C ≠ D → (∀ p ∈ news, p.1 < D) → Fr h₀ L h m → News h₀ L h (nx ++ blk C oC D ys k []) → Off nx (blk C oC D ys k []) → NsO oC cm → J vs.length ys nx → RR (.ref D) C (.ok .next) { s with heap := h, toks := tk })
    (hu : ∀ I D C, A.under (.compLoop (.ListComp elt [⟨target, iter, ifs, 0⟩] scope pos) 0 (.ref I) (.ref D) (compEnvC scope cl C env)) = A := by intro _ _ _; rfl) :
    wpAny (model prog w) A (pyIter (.ref l)) (fun it s₂ => wpAny (model prog w) A (newList []) (fun acc s₃ => wpAny (model prog w) A (newFunctionEnv scope env.globals cl [] env.qual none .none (some env)) (fun cenv s₄ =>
      codeAny (model prog w) A (.compStart (.ListComp elt [⟨target, iter, ifs, 0⟩] scope pos) 0 it acc { cenv with scope := relabel scope env }) (RR acc cenv.locals) s₄) E s₃) E s₂) E s := by
  have hls : s.heap.IsList l vs.toArray := ⟨_, (N _ (hl _ _ _ hj)).1, rfl, ln, rfl⟩
  obtain ⟨nL, nI, nn⟩ := new_off F N
  refine wpAny_pyIter_list hls ?_
  have hne : l ≠ s.heap.objs.size := nn _ (hl _ _ _ hj)
  have W := Walks.list (prog := prog) (w := w) hh s.heap.objs.size l hne vs.toArray
  have hlen' : vs.toArray.size = vs.length := by simp
  rw [hlen'] at W
  refine comp_core (s := { s with heap := s.heap.push { cls := .type "list_iterator", data := .fields #[.ref l, .int 0 0] } }) W (fun i h st => let ⟨⟨o, ho, _⟩, _⟩ := st; ⟨o, ho⟩) (fun i s' v Q' E' st hq => letGo_listiter st.1 hq) J ?_ hlen nL nI (by rw [Heap.size_push]; exact Nat.lt_succ_self _)
    ⟨⟨_, Heap.get?_push_size _ rfl, rfl, rfl⟩, hls.at fun o e => Heap.get?_push_of_some _ e⟩ (F.push _) (fun p hp => ⟨Heap.get?_push_of_some _ (N p hp).1, (N p hp).2⟩) nn hj hcell hkind ?_ done (hu _)
  · intro b hb hbI
    rcases List.mem_cons.mp hb with e | hb
    · exact absurd e hbI
    · rw [List.mem_singleton.mp hb]
      exact ⟨_, fun i ys nx h => hl i ys nx h⟩
  · intro C D i v h tk nx oC cm ys k oI B _ hP F' N' hoff hns hJ
    exact turn C D i v h tk nx oC cm ys k _ B (by simpa using hP) F' N' hoff hns hJ

theorem comp_range {elt target iter : Expr} {ifs : List Expr} {scope : Scope} {cl : List (Str × Addr)} {pos : Pos} {RR : Value → Addr → Result → Shared → Prop} {r : Addr} {a₀ b₀ : Int} {t₀ u₀ v₀ : Tok} {n : Nat} {news : Led}
    (hh : A.handled = none) (hr : IsRange s.heap r a₀ b₀ 1 t₀ u₀ v₀) (hsmall : Builtin.Range.small a₀ b₀ 1 = true) (hn : Builtin.Range.rangeSize a₀ b₀ 1 = (n : Int))
    (J : Nat → List Value → Led → Prop) (hlen : ∀ i ys nx, J i ys nx → ys.length ≤ 1000000)
    (F : Fr h₀ L s.heap m) (N : News h₀ L s.heap news) (hj : J 0 [] news) (hcell : ∀ y ∈ scope.names, y.2 ≠ .cell) (hkind : scope.kind = .function)
    (turn : ∀ C D i t h tk nx oC cm ys k ow, BlkOk C D ow → i < n → Fr h₀ L h m → News h₀ L h (nx ++ blk C oC D ys k ow) → Off nx (blk C oC D ys k ow) → NsO oC cm → J i ys nx →
      wpAny (model prog w) A (assign target (compEnvC scope cl C env) (.int (a₀ + (i : Int)) t)) (fun _ s₂ => ∃ oC' cm', NsO oC' cm' ∧
        wpAny (model prog w) A (tests ifs (compEnvC scope cl C env)) (fun ok s₃ =>
          if ok = true then wpAny (model prog w) A (eval elt (compEnvC scope cl C env)) (fun y s₄ => CStay h₀ L m (blk C oC' D ys k ow) s (J (i + 1) (ys ++ [y])) s₄) (fun _ _ => False) s₃
          else CStay h₀ L m (blk C oC' D ys k ow) s (J (i + 1) ys) s₃) (fun _ _ => False) s₂) (fun _ _ => False) { s with heap := h, toks := tk })
    (done : ∀ C D h tk nx oC cm ys k, C ≠ D → (∀ p ∈ news, p.1 < D) → Fr h₀ L h m → News h₀ L h (nx ++ blk C oC D ys k []) → Off nx (blk C oC D ys k []) → NsO oC cm → J n ys nx → RR (.ref D) C (.ok .next) { s with heap := h, toks := tk })
    (hu : ∀ I D C, A.under (.compLoop (.ListComp elt [⟨target, iter, ifs, 0⟩] scope pos) 0 (.ref I) (.ref D) (compEnvC scope cl C env)) = A := by intro _ _ _; rfl) :
    wpAny (model prog w) A (pyIter (.ref r)) (fun it s₂ => wpAny (model prog w) A (newList []) (fun acc s₃ => wpAny (model prog w) A (newFunctionEnv scope env.globals cl [] env.qual none .none (some env)) (fun cenv s₄ =>
      codeAny (model prog w) A (.compStart (.ListComp elt [⟨target, iter, ifs, 0⟩] scope pos) 0 it acc { cenv with scope := relabel scope env }) (RR acc cenv.locals) s₄) E s₃) E s₂) E s := by
  obtain ⟨nL, nI, nn⟩ := new_off F N
  refine wpAny_pyIter_range hr hsmall ?_
  have W := Walks.range (prog := prog) (w := w) (A := A) hh s.heap.objs.size a₀ 1 n
  refine comp_core (s := { s with heap := s.heap.push { cls := .type "range_iterator", data := .fields #[rawInt a₀, rawInt (Builtin.Range.rangeSize a₀ b₀ 1), rawInt 1] } }) W (fun i h st => ⟨_, st⟩) (fun i s' v Q' E' st hq => letGo_rangeiter st hq) J ?_ hlen nL nI (by rw [Heap.size_push]; exact Nat.lt_succ_self _)
    (by rw [hn]; simpa using Heap.get?_push_size s.heap (o := { cls := .type "range_iterator", data := .fields #[rawInt a₀, rawInt (n : Int), rawInt 1] }) rfl) (F.push _) (fun p hp => ⟨Heap.get?_push_of_some _ (N p hp).1, (N p hp).2⟩) nn hj hcell hkind ?_ done (hu _)
  · intro b hb hbI
    exact absurd (List.mem_singleton.mp hb) hbI
  · intro C D i v h tk nx oC cm ys k oI B hi hP F' N' hoff hns hJ
    obtain ⟨t, rfl⟩ := hP
    rw [Int.mul_one]
    exact turn C D i t h tk nx oC cm ys k _ B hi F' N' hoff hns hJ

theorem post_none {Q : Value → Shared → Prop} {C D : Addr} {h : Heap} {tk : Nat} {nx : Led} {oC : Obj} {cm : Str → Option Value} {ys : List Value} {k : Nat} (hCD : C ≠ D) (F : Fr h₀ L h m) (N : News h₀ L h (nx ++ blk C oC D ys k [])) (hoff : Off nx (blk C oC D ys k [])) (hns : NsO oC cm)
    (hQ : ∀ h', Fr h₀ L h' m → News h₀ L h' ((D, listOf ys.toArray k) :: nx) → (∀ q ∈ nx, q.1 ≠ D) → Q (.ref D) { s with heap := h', toks := tk }) :
    compPost (model prog w) A E none Q (.ref D) C (.ok .next) { s with heap := h, toks := tk } := by
  have hC := N _ (blk_C (nx := nx) (oC := oC) (C := C) (D := D) (ys := ys) (k := k) (ow := []))
  refine ⟨cm, hns.ns hC.1, fun h' hs' => hQ h' ⟨F.ns.at' fun o e => (hs'.2 _ (Ne.symm hC.2.1)).trans e, fun b o e => (hs'.2 b (fun q => by rw [q, hC.2.2] at e; cases e)).trans (F.keep b o e), F.above⟩ (fun p hp => ?_) fun q hq => hoff q hq _ (.tail _ (.head _))⟩
  rcases List.mem_cons.mp hp with rfl | hp
  · have := N _ (blk_D (nx := nx) (oC := oC) (C := C) (D := D) (ys := ys) (k := k) (ow := []))
    exact ⟨(hs'.2 _ (Ne.symm hCD)).trans this.1, this.2⟩
  · have := N p (blk_nx hp)
    exact ⟨(hs'.2 _ (hoff p hp _ (.head _))).trans this.1, this.2⟩

theorem post_use {Q : Value → Shared → Prop} {C D : Addr} {h : Heap} {tk : Nat} {nx : Led} {oC : Obj} {cm : Str → Option Value} {ys : List Value} {k : Nat} {y : Str} {py : Pos} (hy : env.kindOf y = some .local) (hk : env.scope.kind = .function)
    (hCD : C ≠ D) (F : Fr h₀ env.locals h m) (N : News h₀ env.locals h (nx ++ blk C oC D ys k [])) (hoff : Off nx (blk C oC D ys k [])) (hns : NsO oC cm)
    (hQ : ∀ h' tk', Fr h₀ env.locals h' (fun z => if z = y then some (.ref D) else m z) → News h₀ env.locals h' ((D, listOf ys.toArray k) :: nx) → (∀ q ∈ nx, q.1 ≠ D) → Q .none { s with heap := h', toks := tk' }) :
    compPost (model prog w) A E (some (assign (.Name y py) env)) Q (.ref D) C (.ok .next) { s with heap := h, toks := tk } := by
  show wpAny _ A (assign (.Name y py) env (.ref D)) _ _ _
  refine wpAny_assign_Name (wpAny_storeName_local hy F.ns (fun h₂ hn₂ hs₂ => ?_) (cenv_plain hk))
  have F₂ := F.set hn₂ hs₂
  have N₂ := N.set hs₂
  have hC := N₂ _ (blk_C (nx := nx) (oC := oC) (C := C) (D := D) (ys := ys) (k := k) (ow := []))
  refine ⟨cm, hns.ns hC.1, fun h' hs' => hQ h' _ ⟨F₂.ns.at' fun o e => (hs'.2 _ (Ne.symm hC.2.1)).trans e, fun b o e => (hs'.2 b (fun q => by rw [q, hC.2.2] at e; cases e)).trans (F₂.keep b o e), F₂.above⟩ (fun p hp => ?_) fun q hq => hoff q hq _ (.tail _ (.head _))⟩
  rcases List.mem_cons.mp hp with rfl | hp
  · have := N₂ _ (blk_D (nx := nx) (oC := oC) (C := C) (D := D) (ys := ys) (k := k) (ow := []))
    exact ⟨(hs'.2 _ (Ne.symm hCD)).trans this.1, this.2⟩
  · have := N₂ p (blk_nx hp)
    exact ⟨(hs'.2 _ (hoff p hp _ (.head _))).trans this.1, this.2⟩

theorem lc_none {elt target iter : Expr} {ifs : List Expr} {scope : Scope} {cl : List (Str × Addr)} {pos : Pos} {Q : Value → Shared → Prop} (hclos : closureFor scope env = pure cl) (hkind : scope.kind = .function)
    (hnames : ∀ x ∈ scope.names, x.2 = .local → scope.names.lookup x.1 = some .local) (hs : ∀ x, foldedSetIterable iter env x = pure x)
    (h : wpAny (model prog w) A (eval iter env) (fun x s₁ => wpAny (model prog w) A (pyIter x) (fun it s₂ => wpAny (model prog w) A (newList []) (fun acc s₃ => wpAny (model prog w) A (newFunctionEnv scope env.globals cl [] env.qual none .none (some env)) (fun cenv s₄ =>
      codeAny (model prog w) A (.compStart (.ListComp elt [⟨target, iter, ifs, 0⟩] scope pos) 0 it acc { cenv with scope := relabel scope env }) (compPost (model prog w) A E none Q acc cenv.locals) s₄) E s₃) E s₂) E s₁) E s) :
    wpAny (model prog w) A (eval (.ListComp elt [⟨target, iter, ifs, 0⟩] scope pos) env) Q E s := by
  rw [eval_ListComp]
  exact wpAny_comprehension_free (use := none) rfl hs hclos hkind hnames h

theorem lc_use {elt target iter : Expr} {ifs : List Expr} {scope : Scope} {cl : List (Str × Addr)} {pos spos : Pos} {y : Str} {py : Pos} {Q : Flow → Shared → Prop}
    (hsw : swapsWith (.ListComp elt [⟨target, iter, ifs, 0⟩] scope pos) (some (.Name y py)) spos.line env = pure true) (hclos : closureFor scope env = pure cl) (hkind : scope.kind = .function)
    (hnames : ∀ x ∈ scope.names, x.2 = .local → scope.names.lookup x.1 = some .local) (hs : ∀ x, foldedSetIterable iter env x = pure x)
    (h : wpAny (model prog w) A (eval iter env) (fun x s₁ => wpAny (model prog w) A (pyIter x) (fun it s₂ => wpAny (model prog w) A (newList []) (fun acc s₃ => wpAny (model prog w) A (newFunctionEnv scope env.globals cl [] env.qual none .none (some env)) (fun cenv s₄ =>
      codeAny (model prog w) A (.compStart (.ListComp elt [⟨target, iter, ifs, 0⟩] scope pos) 0 it acc { cenv with scope := relabel scope env }) (compPost (model prog w) A E (some (assign (.Name y py) env)) (fun _ s' => Q .next s') acc cenv.locals) s₄) E s₃) E s₂) E s₁) E s) :
    wpAny (model prog w) A (exec (.Assign [.Name y py] (.ListComp elt [⟨target, iter, ifs, 0⟩] scope pos) spos) env) Q E s := by
  rw [exec_Assign_Name_used _ _ _ _ hsw]
  refine wpAny_bind (wpAny_standAt (wpAny_bind ?_))
  show wpAny _ A (do let _ ← comprehension (.ListComp elt [⟨target, iter, ifs, 0⟩] scope pos) scope env _ (newList []) false (eval iter env) (some (assign (.Name y py) env))) _ _ s
  exact wpAny_bind (wpAny_mono (wpAny_comprehension_free (use := some (assign (.Name y py) env)) (Q := fun _ s' => Q .next s') rfl hs hclos hkind hnames h) (fun _ s' hq => wpAny_pure (wpAny_pure hq)) fun _ _ e => e)

theorem cname_L {M : Model} {sc : Scope} {cl : List (Str × Addr)} {C : Addr} {oC : Obj} {cm : Str → Option Value} {led : Led} {x : Str} {pos : Pos} {v : Value} {Q : Value → Shared → Prop} (N : News h₀ L s.heap led) (hm : (C, oC) ∈ led) (hns : NsO oC cm) (hv : cm x = some v) (h : Q v s)
    (hk : sc.kind = .function) (hl : (compEnvC sc cl C env).kindOf x = some .local) (hd : (x == ("__debug__" : Str)) = false) : wpAny M A (eval (.Name x pos) (compEnvC sc cl C env)) Q E s :=
  wpAny_Name (wpAny_loadName_local (env := compEnvC sc cl C env) hk hl (hns.ns (N _ hm).1) hv h) hd
theorem cname_C {M : Model} {sc : Scope} {cl : List (Str × Addr)} {C c : Addr} {o : Obj} {led : Led} {x : Str} {pos : Pos} {v : Value} {Q : Value → Shared → Prop} (N : News h₀ L s.heap led) (hm : (c, o) ∈ led) (hdat : o.data = .cell (some v)) (hc : cl.lookup x = some c) (h : Q v s)
    (hk : sc.kind = .function) (hl : (compEnvC sc cl C env).kindOf x = some .cell) (hd : (x == ("__debug__" : Str)) = false) : wpAny M A (eval (.Name x pos) (compEnvC sc cl C env)) Q E s :=
  wpAny_Name (wpAny_loadName_cell (env := compEnvC sc cl C env) hk hl hc ⟨o, (N _ hm).1, hdat⟩ h) hd

end
end Mine
end
section
open PySem PySem.W PyProof.Rows PySem.Calls PyProof.V PySem.Spec
set_option maxRecDepth 100000
namespace Mine

section
variable {prog : Program} {w : World} {A : Around} {E : Value → Shared → Prop} {s : Shared} {env : Env} {h₀ : Heap} {L : Addr} {m : Str → Option Value}

abbrev cellO (v : Option Value) : Obj := { cls := .type "cell", data := .cell v }

theorem newEnvCell {scope : Scope} {globals : Addr} {cl : List (Str × Addr)} {x : Str} {qual : Str} {outer : Env} {Q : Env → Shared → Prop}
    (hcf : ∀ k, cellsFrom k scope.names cl = (x, k) :: cl) (hpc : ∀ h, pushCells h scope.names = h.push (cellO none))
    (hQ : Q { scope, locals := s.heap.objs.size, globals, cells := (x, s.heap.objs.size + 1) :: cl, qual, func := none, code := outer.code, frame := outer.frame, builtins := outer.builtins }
      { s with heap := (s.heap.push { cls := .type "dict", data := .dict #[] }).push (cellO none) }) :
    wpAny (model prog w) A (newFunctionEnv scope globals cl [] qual none .none (some outer)) Q E s := by
  simp only [newFunctionEnv, Option.isSome_some, if_true]
  refine wpAny_bind (wpAny_alloc ?_)
  refine wpAny_bind (wpAny_layCells _ (fun name kind cells => by cases hkc : kind == NameKind.cell <;> simp [hkc]) _ _ _ _ ?_)
  rw [show ({ s with heap := s.heap.push { cls := .type "dict", data := .dict #[] } } : Shared).heap.objs.size = s.heap.objs.size + 1 from Heap.size_push .., hcf, hpc]
  exact wpAny_pure hQ

theorem comp_coreC {elt target iter : Expr} {ifs : List Expr} {scope : Scope} {cl : List (Str × Addr)} {x : Str} {pos : Pos} {RR : Value → Addr → Result → Shared → Prop} {I : Addr} {fp : List Addr} {n : Nat} {P : Nat → Value → Prop} {St : Nat → Heap → Prop} {news : Led}
    (W : Walks prog w A I fp [I] n P St) (hob : ∀ i h, St i h → ∃ o, h.get? I = some o)
    (hgo : ∀ i (s' : Shared) v (Q' : Unit → Shared → Prop) E', St i s'.heap → Q' () s' → wpAny (model prog w) A (letOwnedTupleGo target (.ref I) v) Q' E' s')
    (J : Addr → Nat → List Value → Led → Prop)
    (hfix : ∀ b ∈ fp, b ≠ I → ∃ o, ∀ c i ys nx, J c i ys nx → (b, o) ∈ nx)
    (hlen : ∀ c i ys nx, J c i ys nx → ys.length ≤ 1000000)
    (hLI : L ≠ I) (hI : h₀.get? I = none) (hIlt : I < s.heap.objs.size) (hst : St 0 s.heap)
    (F : Fr h₀ L s.heap m) (N : News h₀ L s.heap news) (hnI : ∀ q ∈ news, q.1 ≠ I) (hj : ∀ c, (∀ p ∈ news, p.1 < c) → J c 0 [] ((c, cellO none) :: news))
    (hcf : ∀ k, cellsFrom k scope.names cl = (x, k) :: cl) (hpc : ∀ h, pushCells h scope.names = h.push (cellO none)) (hkind : scope.kind = .function)
    (turn : ∀ c C D i v h tk nx oC cm ys k oI, BlkOk C D [(I, oI)] → i < n → P i v → Fr h₀ L h m → News h₀ L h (nx ++ blk C oC D ys k [(I, oI)]) → Off nx (blk C oC D ys k [(I, oI)]) → NsO oC cm → J c i ys nx →
      wpAny (model prog w) A (assign target (compEnvC scope ((x, c) :: cl) C env) v) (fun _ s₂ => ∃ oC' cm', NsO oC' cm' ∧
        wpAny (model prog w) A (tests ifs (compEnvC scope ((x, c) :: cl) C env)) (fun ok s₃ =>
          if ok = true then wpAny (model prog w) A (eval elt (compEnvC scope ((x, c) :: cl) C env)) (fun y s₄ => CStay h₀ L m (blk C oC' D ys k [(I, oI)]) s (J c (i + 1) (ys ++ [y])) s₄) (fun _ _ => False) s₃
          else CStay h₀ L m (blk C oC' D ys k [(I, oI)]) s (J c (i + 1) ys) s₃) (fun _ _ => False) s₂) (fun _ _ => False) { s with heap := h, toks := tk })
    (done : ∀ c C D h tk nx oC cm ys k, C ≠ D → (∀ p ∈ news, p.1 < D) → Fr h₀ L h m → News h₀ L h (nx ++ blk C oC D ys k []) → Off nx (blk C oC D ys k []) → NsO oC cm → J c n ys nx → RR (.ref D) C (.ok .next) { s with heap := h, toks := tk })
    (hu : ∀ c D C, A.under (.compLoop (.ListComp elt [⟨target, iter, ifs, 0⟩] scope pos) 0 (.ref I) (.ref D) (compEnvC scope ((x, c) :: cl) C env)) = A := by intro _ _ _; rfl) :
    wpAny (model prog w) A (newList []) (fun acc s₃ => wpAny (model prog w) A (newFunctionEnv scope env.globals cl [] env.qual none .none (some env)) (fun cenv s₄ =>
      codeAny (model prog w) A (.compStart (.ListComp elt [⟨target, iter, ifs, 0⟩] scope pos) 0 (.ref I) acc { cenv with scope := relabel scope env }) (RR acc cenv.locals) s₄) E s₃) E s := by
  refine wpAny_newObj_type (newEnvCell hcf hpc ?_)
  dsimp only
  generalize hH2 : s.heap.push { cls := .type "list", dict := none, data := .seq ([] : List Value).toArray } = H2
  have hC : H2.objs.size = s.heap.objs.size + 1 := by rw [← hH2, Heap.size_push]
  generalize hH3 : H2.push { cls := .type "dict", data := .dict #[] } = H3
  have hc3 : H3.objs.size = H2.objs.size + 1 := by rw [← hH3, Heap.size_push]
  have hns₁ : (H3.push (cellO none)).Ns H2.objs.size (fun _ => none) := by
    rw [← hH3]
    exact (Heap.Ns.new H2 (.type "dict")).keeps fun b o e => Heap.get?_push_of_some _ e
  have old : ∀ b o, s.heap.get? b = some o → (H3.push (cellO none)).get? b = some o := fun b o e =>
    Heap.get?_push_of_some _ (hH3 ▸ Heap.get?_push_of_some _ (hH2 ▸ Heap.get?_push_of_some _ e))
  have hcell₁ : (H3.push (cellO none)).get? (H2.objs.size + 1) = some (cellO none) := by rw [← hc3]; exact Heap.get?_push_size _ rfl
  have hDC : s.heap.objs.size ≠ H2.objs.size := by rw [hC]; exact Nat.ne_of_lt (Nat.lt_succ_self _)
  have hD₁ : (H3.push (cellO none)).get? s.heap.objs.size = some (listOf ([] : List Value).toArray 0) := Heap.get?_push_of_some _ (hH3 ▸ Heap.get?_push_of_some _ (hH2 ▸ Heap.get?_push_size _ rfl))
  generalize H3.push (cellO none) = h₁ at *
  obtain ⟨oC, hoC, hns⟩ := nsO_of hns₁
  have F₁ : Fr h₀ L h₁ m := ⟨F.ns.at' fun o e => old _ o e, fun b o e => old b o (F.keep b o e), F.above⟩
  have none_at : ∀ a, s.heap.objs.size ≤ a → h₀.get? a = none ∧ a ≠ L := fun a ha => by
    refine ⟨?_, fun q => absurd F.ns.lt (by rw [← q]; exact Nat.not_lt.mpr ha)⟩
    cases q : h₀.get? a with
    | none => rfl
    | some o => exact absurd (Heap.lt_size (F.keep _ _ q)) (Nat.not_lt.mpr ha)
  have hDn := none_at s.heap.objs.size (Nat.le_refl _)
  have hCn := none_at H2.objs.size (by rw [hC]; exact Nat.le_succ _)
  have hcn := none_at (H2.objs.size + 1) (by rw [hC]; exact Nat.le_add_right _ 2)
  have nlt : ∀ p ∈ news, p.1 < s.heap.objs.size := fun p hp => Heap.lt_size (N p hp).1
  have N₁ : News h₀ L h₁ (((H2.objs.size + 1, cellO none) :: news) ++ blk H2.objs.size oC s.heap.objs.size [] 0 []) := fun p hp => by
    rcases blk_cases hp with hp | rfl | rfl | hp
    · rcases List.mem_cons.mp hp with rfl | hp
      · exact ⟨hcell₁, hcn.2, hcn.1⟩
      · exact ⟨old _ _ (N p hp).1, (N p hp).2⟩
    · exact ⟨hoC, hCn.2, hCn.1⟩
    · exact ⟨hD₁, hDn.2, hDn.1⟩
    · cases hp
  have hoff : Off ((H2.objs.size + 1, cellO none) :: news) (blk H2.objs.size oC s.heap.objs.size [] 0 []) := fun q hq p hp => by
    rcases List.mem_cons.mp hq with rfl | hq
    · rcases List.mem_cons.mp hp with rfl | hp
      · exact Nat.ne_of_gt (Nat.lt_succ_self _)
      · rcases List.mem_cons.mp hp with rfl | hp
        · show H2.objs.size + 1 ≠ s.heap.objs.size
          omega
        · cases hp
    · have := nlt q hq
      rcases List.mem_cons.mp hp with rfl | hp
      · rw [hC]; exact Nat.ne_of_lt (Nat.lt_succ_of_lt (nlt q hq))
      · rcases List.mem_cons.mp hp with rfl | hp
        · exact Nat.ne_of_lt (nlt q hq)
        · cases hp
  have hst₁ : St 0 h₁ := W.frame _ _ _ hst fun b _ o e => old b o e
  have hCI : H2.objs.size ≠ I := by rw [hC]; exact Nat.ne_of_gt (Nat.lt_succ_of_lt hIlt)
  have hDI : s.heap.objs.size ≠ I := Nat.ne_of_gt hIlt
  have hnI' : ∀ q ∈ (H2.objs.size + 1, cellO none) :: news, q.1 ≠ I := fun q hq => by
    rcases List.mem_cons.mp hq with rfl | hq
    · exact Nat.ne_of_gt (by rw [hC]; exact Nat.lt_succ_of_lt (Nat.lt_succ_of_lt hIlt))
    · exact hnI q hq
  have loop : codeAny (model prog w) A (.compLoop (.ListComp elt [⟨target, iter, ifs, 0⟩] scope pos) 0 (.ref I) (.ref s.heap.objs.size) (compEnvC scope ((x, H2.objs.size + 1) :: cl) H2.objs.size env))
      (RR (.ref s.heap.objs.size) H2.objs.size) { s with heap := h₁, toks := s.toks } := by
    refine code_comp (s := { s with heap := h₁, toks := s.toks }) (C := H2.objs.size) (D := s.heap.objs.size) (ow := []) (L := L) (m := m)
      (emit := do let _ ← call (.builtin "list.append") [.ref s.heap.objs.size, ← eval elt (compEnvC scope ((x, H2.objs.size + 1) :: cl) H2.objs.size env)]; pure ()) rfl ⟨rfl, rfl, rfl⟩ W hob hgo (fun i _ ys nx => J (H2.objs.size + 1) i ys nx) ?_ hCI hDI hLI hI (fun _ hp => nomatch hp) hst₁ F₁ N₁ hoff hnI' hns (hj _ fun p hp => by rw [hC]; exact Nat.lt_succ_of_lt (Nat.lt_succ_of_lt (nlt p hp))) ?_ ?_ (hu _ _ _)
    · intro b hb hbI
      obtain ⟨o, ho⟩ := hfix b hb hbI
      exact ⟨o, .inr fun i _ ys nx hJ => ho _ i ys nx hJ⟩
    · intro i v h tk nx oC cm ys k oI hi hP F' N' hoff' hns' hJ
      have B : BlkOk H2.objs.size s.heap.objs.size [(I, oI)] := ⟨Ne.symm hDC, fun p hp => by rw [List.mem_singleton.mp hp]; exact Ne.symm hCI, fun p hp => by rw [List.mem_singleton.mp hp]; exact Ne.symm hDI⟩
      refine wpAny_mono (turn _ _ _ i v h tk nx oC cm ys k oI B hi hP F' N' hoff' hns' hJ) (fun _ s₂ h₂ => ?_) fun _ _ e => e
      obtain ⟨oC', cm', hnsC, h₂⟩ := h₂
      refine wpAny_mono h₂ (fun ok s₃ h₃ => ?_) fun _ _ e => e
      cases ok with
      | true =>
        rw [if_pos rfl] at h₃ ⊢
        exact emit_last B hnsC (hlen _ _ _ _ hJ) h₃
      | false =>
        rw [if_neg Bool.false_ne_true] at h₃ ⊢
        obtain ⟨h', tk', nx', e, F'', N'', hoff'', hJ''⟩ := h₃
        exact ⟨h', tk', nx', oC', cm', ys, k, e, F'', N'', hoff'', hnsC, hJ''⟩
    · intro h tk nx oC cm ys k F' N' hoff' hns' hJ
      exact done _ _ _ h tk nx oC cm ys k (Ne.symm hDC) nlt F' N' hoff' hns' hJ
  exact codeAny_compStart_list loop (W.self 0 _ _ _ hst₁ loop)

theorem comp_rangeC {elt target iter : Expr} {ifs : List Expr} {scope : Scope} {cl : List (Str × Addr)} {x : Str} {pos : Pos} {RR : Value → Addr → Result → Shared → Prop} {r : Addr} {a₀ b₀ : Int} {t₀ u₀ v₀ : Tok} {n : Nat} {news : Led}
    (hh : A.handled = none) (hr : IsRange s.heap r a₀ b₀ 1 t₀ u₀ v₀) (hsmall : Builtin.Range.small a₀ b₀ 1 = true) (hn : Builtin.Range.rangeSize a₀ b₀ 1 = (n : Int))
    (J : Addr → Nat → List Value → Led → Prop) (hlen : ∀ c i ys nx, J c i ys nx → ys.length ≤ 1000000)
    (F : Fr h₀ L s.heap m) (N : News h₀ L s.heap news) (hj : ∀ c, (∀ p ∈ news, p.1 < c) → J c 0 [] ((c, cellO none) :: news))
    (hcf : ∀ k, cellsFrom k scope.names cl = (x, k) :: cl) (hpc : ∀ h, pushCells h scope.names = h.push (cellO none)) (hkind : scope.kind = .function)
    (turn : ∀ c C D i t h tk nx oC cm ys k ow, BlkOk C D ow → i < n → Fr h₀ L h m → News h₀ L h (nx ++ blk C oC D ys k ow) → Off nx (blk C oC D ys k ow) → NsO oC cm → J c i ys nx →
      wpAny (model prog w) A (assign target (compEnvC scope ((x, c) :: cl) C env) (.int (a₀ + (i : Int)) t)) (fun _ s₂ => ∃ oC' cm', NsO oC' cm' ∧
        wpAny (model prog w) A (tests ifs (compEnvC scope ((x, c) :: cl) C env)) (fun ok s₃ =>
          if ok = true then wpAny (model prog w) A (eval elt (compEnvC scope ((x, c) :: cl) C env)) (fun y s₄ => CStay h₀ L m (blk C oC' D ys k ow) s (J c (i + 1) (ys ++ [y])) s₄) (fun _ _ => False) s₃
          else CStay h₀ L m (blk C oC' D ys k ow) s (J c (i + 1) ys) s₃) (fun _ _ => False) s₂) (fun _ _ => False) { s with heap := h, toks := tk })
    (done : ∀ c C D h tk nx oC cm ys k, C ≠ D → (∀ p ∈ news, p.1 < D) → Fr h₀ L h m → News h₀ L h (nx ++ blk C oC D ys k []) → Off nx (blk C oC D ys k []) → NsO oC cm → J c n ys nx → RR (.ref D) C (.ok .next) { s with heap := h, toks := tk })
    (hu : ∀ I c D C, A.under (.compLoop (.ListComp elt [⟨target, iter, ifs, 0⟩] scope pos) 0 (.ref I) (.ref D) (compEnvC scope ((x, c) :: cl) C env)) = A := by intro _ _ _ _; rfl) :
    wpAny (model prog w) A (pyIter (.ref r)) (fun it s₂ => wpAny (model prog w) A (newList []) (fun acc s₃ => wpAny (model prog w) A (newFunctionEnv scope env.globals cl [] env.qual none .none (some env)) (fun cenv s₄ =>
      codeAny (model prog w) A (.compStart (.ListComp elt [⟨target, iter, ifs, 0⟩] scope pos) 0 it acc { cenv with scope := relabel scope env }) (RR acc cenv.locals) s₄) E s₃) E s₂) E s := by
  obtain ⟨nL, nI, nn⟩ := new_off F N
  refine wpAny_pyIter_range hr hsmall ?_
  have W := Walks.range (prog := prog) (w := w) (A := A) hh s.heap.objs.size a₀ 1 n
  refine comp_coreC (s := { s with heap := s.heap.push { cls := .type "range_iterator", data := .fields #[rawInt a₀, rawInt (Builtin.Range.rangeSize a₀ b₀ 1), rawInt 1] } }) W (fun i h st => ⟨_, st⟩) (fun i s' v Q' E' st hq => letGo_rangeiter st hq) J ?_ hlen nL nI (by rw [Heap.size_push]; exact Nat.lt_succ_self _)
    (by rw [hn]; simpa using Heap.get?_push_size s.heap (o := { cls := .type "range_iterator", data := .fields #[rawInt a₀, rawInt (n : Int), rawInt 1] }) rfl) (F.push _) (fun p hp => ⟨Heap.get?_push_of_some _ (N p hp).1, (N p hp).2⟩) nn hj hcf hpc hkind ?_ done (hu _)
  · intro b hb hbI
    exact absurd (List.mem_singleton.mp hb) hbI
  · intro c C D i v h tk nx oC cm ys k oI B hi hP F' N' hoff hns hJ
    obtain ⟨t, rfl⟩ := hP
    rw [Int.mul_one]
    exact turn c C D i t h tk nx oC cm ys k _ B hi F' N' hoff hns hJ

theorem bind_cell {cenv : Env} {x : Str} {px : Pos} {v : Value} {c : Addr} {o : Obj} {v₀ : Option Value} {led : Led} {Q : Unit → Shared → Prop} (hk : cenv.scope.kind = .function) (hx : cenv.kindOf x = some .cell) (hc : cenv.cells.lookup x = some c)
    (F : Fr h₀ L s.heap m) (N : News h₀ L s.heap ((c, o) :: led)) (hd : o.data = .cell v₀) (hne : ∀ p ∈ led, p.1 ≠ c)
    (h : ∀ h' o', o'.data = .cell (some v) → Fr h₀ L h' m → News h₀ L h' ((c, o') :: led) → Q () { s with heap := h' }) :
    wpAny (model prog w) A (assign (.Name x px) cenv v) Q E s := by
  have hc0 := N _ (.head _)
  refine wpAny_assign_Name (wpAny_storeName_cell hk hx hc ⟨o, hc0.1, hd⟩ fun h' hi hs => ?_)
  obtain ⟨o', ho', hd'⟩ := hi
  refine h h' o' hd' ⟨F.ns.at' fun o e => (hs.2 _ (Ne.symm hc0.2.1)).trans e, fun b o e => (hs.2 b (fun q => by rw [q, hc0.2.2] at e; cases e)).trans (F.keep b o e), F.above⟩ fun p hp => ?_
  rcases List.mem_cons.mp hp with rfl | hp
  · exact ⟨ho', hc0.2⟩
  · have := N p (.tail _ hp)
    exact ⟨(hs.2 _ (hne p hp)).trans this.1, this.2⟩
end
end Mine
end
section
open PySem PySem.W PyProof.Rows PySem.Calls PyProof.V PySem.Spec
set_option maxRecDepth 100000
namespace Mine
section
variable {prog : Program} {w : World} {A : Around} {R : Result → Shared → Prop} {s : Shared} {elt t0 i0 t1 i1 : Expr} {f0 f1 : List Expr} {scope : Scope} {pos : Pos} {it acc : Value} {env : Env}

theorem start1 (h0 : codeAny (model prog w) A (.compLoop (.ListComp elt [⟨t0, i0, f0, 0⟩, ⟨t1, i1, f1, 0⟩] scope pos) 1 it acc env) R s)
    (h : wpAny (model prog w) A (pyIter it) (fun it' s' => codeAny (model prog w) A (.compLoop (.ListComp elt [⟨t0, i0, f0, 0⟩, ⟨t1, i1, f1, 0⟩] scope pos) 1 it' acc env) R s') (notedBy (model prog w) A env fun x s' => R (.error x) s') s) :
    codeAny (model prog w) A (.compStart (.ListComp elt [⟨t0, i0, f0, 0⟩, ⟨t1, i1, f1, 0⟩] scope pos) 1 it acc env) R s := by
  refine codeAny_of_tree ?_
  show wpAny _ _ ((compStart (.ListComp elt [⟨t0, i0, f0, 0⟩, ⟨t1, i1, f1, 0⟩] scope pos) 1 it acc env).onRaise (fun x => do noteFrame x env; standAt theWindowsPlace)) _ _ s
  refine wpAny_notedAt ?_
  unfold compStart
  show wpAny _ _ (ask >>= _) _ _ s
  refine wpAny_bind (wpAny_askSetting (wpAny_ite ?_))
  split
  · exact wpAny_pure (And.intro rfl h0)
  · refine wpAny_bind (wpAny_rule ?_)
    show wpAny _ _ (standAt i1.pos >>= _) _ _ s
    exact wpAny_bind (wpAny_standAt (wpAny_bind (wpAny_mono h (fun it' s' h' => wpAny_pure (And.intro rfl h')) fun _ _ x => x)))
end

section
variable {prog : Program} {w : World} {A : Around} {E : Value → Shared → Prop} {s : Shared} {env : Env} {h₀ : Heap} {L : Addr} {m : Str → Option Value} {elt t0 i0 t1 i1 : Expr} {f1 : List Expr} {scope : Scope} {pos : Pos} {cenv : Env} {C D : Addr} {ow : Led}

abbrev emit2 (e i1 : Expr) (acc : Value) (cenv : Env) : Sem Unit := do
  let x ← eval i1 cenv
  standAt i1.pos
  let x ← foldedSetIterable i1 cenv x
  let _ ← runOwn (.compStart e 1 (← holding [x] (pyIter x)) acc cenv) cenv
  pure ()

abbrev emit2r (e i1 : Expr) (x acc : Value) (cenv : Env) : Sem Unit := do
  standAt i1.pos
  let x ← foldedSetIterable i1 cenv x
  let _ ← runOwn (.compStart e 1 (← holding [x] (pyIter x)) acc cenv) cenv
  pure ()
theorem turnIs0 {it acc : Value} : TurnIs (.compLoop (.ListComp elt [⟨t0, i0, [], 0⟩, ⟨t1, i1, f1, 0⟩] scope pos) 0 it acc cenv) t0 i0 [] it cenv (emit2 (.ListComp elt [⟨t0, i0, [], 0⟩, ⟨t1, i1, f1, 0⟩] scope pos) i1 acc cenv) := by
  refine ⟨rfl, rfl, ?_⟩
  simp only [compTurn, emit2, bind_assoc, pure_bind, List.forIn_nil, if_true, List.getElem?_cons_zero, List.getElem?_cons_succ]
  rfl
theorem turnIs1 {it acc : Value} : TurnIs (.compLoop (.ListComp elt [⟨t0, i0, [], 0⟩, ⟨t1, i1, f1, 0⟩] scope pos) 1 it acc cenv) t1 i1 f1 it cenv (do let _ ← call (.builtin "list.append") [acc, ← eval elt cenv]; pure ()) := ⟨rfl, rfl, rfl⟩

theorem emit2_core {l1 : Addr} {vs1 : List Value} {ln1 : Nat} {nx : Led} {oC : Obj} {cm : Str → Option Value} {ys : List Value} {k : Nat} {s₀ : Shared} {Jn : List Value → Led → Prop} (hh : A.handled = none) (B : BlkOk cenv.locals D ow)
    (J : Nat → (Str → Option Value) → List Value → Led → Prop) (hl : ∀ i cm ys nx, J i cm ys nx → (l1, listOf vs1.toArray ln1) ∈ nx) (hlen : ∀ i cm ys nx, J i cm ys nx → ys.length ≤ 1000000)
    (hs : ∀ x, foldedSetIterable i1 cenv x = pure x)
    (F : Fr h₀ L s.heap m) (N : News h₀ L s.heap (nx ++ blk cenv.locals oC D ys k ow)) (hoff : Off nx (blk cenv.locals oC D ys k ow)) (hns : NsO oC cm) (hj : J 0 cm ys nx)
    (turn : ∀ i v h tk nx oC cm ys k ow', BlkOk cenv.locals D ow' → vs1[i]? = some v → Fr h₀ L h m → News h₀ L h (nx ++ blk cenv.locals oC D ys k ow') → Off nx (blk cenv.locals oC D ys k ow') → NsO oC cm → J i cm ys nx →
      wpAny (model prog w) A (assign t1 cenv v) (fun _ s₂ => ∃ oC' cm', NsO oC' cm' ∧
        wpAny (model prog w) A (tests f1 cenv) (fun ok s₃ =>
          if ok = true then wpAny (model prog w) A (eval elt cenv) (fun y s₄ => CStay h₀ L m (blk cenv.locals oC' D ys k ow') s (J (i + 1) cm' (ys ++ [y])) s₄) (fun _ _ => False) s₃
          else CStay h₀ L m (blk cenv.locals oC' D ys k ow') s (J (i + 1) cm' ys) s₃) (fun _ _ => False) s₂) (fun _ _ => False) { s with heap := h, toks := tk })
    (hfin : ∀ h tk nx oC cm ys k, Fr h₀ L h m → News h₀ L h (nx ++ blk cenv.locals oC D ys k ow) → Off nx (blk cenv.locals oC D ys k ow) → NsO oC cm → J vs1.length cm ys nx → CHead h₀ L m cenv.locals D ow s₀ (fun _ => Jn) { s with heap := h, toks := tk }) :
    wpAny (model prog w) A (emit2r (.ListComp elt [⟨t0, i0, [], 0⟩, ⟨t1, i1, f1, 0⟩] scope pos) i1 (.ref l1) (.ref D) cenv) (fun _ s₄ => CHead h₀ L m cenv.locals D ow s₀ (fun _ => Jn) s₄) (fun _ _ => False) s := by
  unfold emit2r
  refine wpAny_bind (wpAny_standAt (wpAny_bind (wpAny_of_eq (hs _) (wpAny_bind (wpAny_holding ?_)))))
  have hm1 := hl _ _ _ _ hj
  have hls : s.heap.IsList l1 vs1.toArray := ⟨_, (N _ (blk_nx hm1)).1, rfl, ln1, rfl⟩
  obtain ⟨nL, nI, nn⟩ := new_off F N
  refine wpAny_pyIter_list hls (wpAny_bind (wpAny_runOwn ?_))
  have hne : l1 ≠ s.heap.objs.size := nn _ (blk_nx hm1)
  have W := Walks.list (prog := prog) (w := w) hh s.heap.objs.size l1 hne vs1.toArray
  have hlen' : vs1.toArray.size = vs1.length := by simp
  rw [hlen'] at W
  have hmk : A.mark none = A := by
    obtain ⟨hd, _, _, _, _⟩ := A
    rfl
  rw [hmk]
  have hCI : cenv.locals ≠ s.heap.objs.size := nn (cenv.locals, oC) blk_C
  have hDI : D ≠ s.heap.objs.size := nn (D, listOf ys.toArray k) blk_D
  have hst : (fun h : Heap => Heap.IsListIter h s.heap.objs.size l1 0 ∧ h.IsList l1 vs1.toArray) (s.heap.push { cls := .type "list_iterator", data := .fields #[.ref l1, .int 0 0] }) :=
    ⟨⟨_, Heap.get?_push_size _ rfl, rfl, rfl⟩, hls.at fun o e => Heap.get?_push_of_some _ e⟩
  have loop : codeAny (model prog w) A (.compLoop (.ListComp elt [⟨t0, i0, [], 0⟩, ⟨t1, i1, f1, 0⟩] scope pos) 1 (.ref s.heap.objs.size) (.ref D) cenv)
      (fun r s' => match r with | .ok f => wpAny (model prog w) A (pure ()) (fun _ s₄ => CHead h₀ L m cenv.locals D ow s₀ (fun _ => Jn) s₄) (fun _ _ => False) s' | .error e => cameBackBy (model prog w) A cenv (fun _ _ => False) e s')
      { s with heap := s.heap.push { cls := .type "list_iterator", data := .fields #[.ref l1, .int 0 0] } } := by
    refine code_comp (s := { s with heap := s.heap.push { cls := .type "list_iterator", data := .fields #[.ref l1, .int 0 0] } }) (C := cenv.locals) (D := D) (ow := ow) (L := L) (m := m)
      rfl turnIs1 W (fun i h st => let ⟨⟨o, ho, _⟩, _⟩ := st; ⟨o, ho⟩) (fun i s' v Q' E' st hq => letGo_listiter st.1 hq) J ?_ hCI hDI nL nI (fun p hp => nn p (blk_ow hp)) hst (F.push _) (fun p hp => ⟨Heap.get?_push_of_some _ (N p hp).1, (N p hp).2⟩) hoff (fun q hq => nn q (blk_nx hq)) hns hj ?_ ?_ ?_
    · intro b hb hbI
      rcases List.mem_cons.mp hb with e | hb
      · exact absurd e hbI
      · rw [List.mem_singleton.mp hb]
        exact ⟨_, .inr fun i cm ys nx h => hl i cm ys nx h⟩
    · intro i v h tk nx oC cm ys k oI hi hP F' N' hoff' hns' hJ
      have B' : BlkOk cenv.locals D ((s.heap.objs.size, oI) :: ow) := ⟨B.cd, fun p hp => by
        rcases List.mem_cons.mp hp with rfl | hp
        · exact Ne.symm hCI
        · exact B.c p hp, fun p hp => by
        rcases List.mem_cons.mp hp with rfl | hp
        · exact Ne.symm hDI
        · exact B.d p hp⟩
      refine wpAny_mono (turn i v h tk nx oC cm ys k _ B' (by simpa using hP) F' N' hoff' hns' hJ) (fun _ s₂ h₂ => ?_) fun _ _ e => e
      obtain ⟨oC', cm', hnsC, h₂⟩ := h₂
      refine wpAny_mono h₂ (fun ok s₃ h₃ => ?_) fun _ _ e => e
      cases ok with
      | true =>
        rw [if_pos rfl] at h₃ ⊢
        exact emit_last B' hnsC (hlen _ _ _ _ hJ) h₃
      | false =>
        rw [if_neg Bool.false_ne_true] at h₃ ⊢
        obtain ⟨h', tk', nx', e, F'', N'', hoff'', hJ''⟩ := h₃
        exact ⟨h', tk', nx', oC', cm', ys, k, e, F'', N'', hoff'', hnsC, hJ''⟩
    · intro h tk nx oC cm ys k F' N' hoff' hns' hJ
      exact wpAny_pure (hfin h tk nx oC cm ys k F' N' hoff' hns' hJ)
    · rfl
  exact start1 loop (W.self 0 _ _ _ hst loop)

theorem emit2_wp {l1 : Addr} {vs1 : List Value} {ln1 : Nat} {nx : Led} {oC : Obj} {cm : Str → Option Value} {ys : List Value} {k : Nat} {s₀ : Shared} {Jn : List Value → Led → Prop} (hh : A.handled = none) (B : BlkOk cenv.locals D ow)
    (J : Nat → (Str → Option Value) → List Value → Led → Prop) (hl : ∀ i cm ys nx, J i cm ys nx → (l1, listOf vs1.toArray ln1) ∈ nx) (hlen : ∀ i cm ys nx, J i cm ys nx → ys.length ≤ 1000000)
    (hev : ∀ Q : Value → Shared → Prop, (∀ tk, Q (.ref l1) { s with toks := tk }) → wpAny (model prog w) A (eval i1 cenv) Q (fun _ _ => False) s) (hs : ∀ x, foldedSetIterable i1 cenv x = pure x)
    (F : Fr h₀ L s.heap m) (N : News h₀ L s.heap (nx ++ blk cenv.locals oC D ys k ow)) (hoff : Off nx (blk cenv.locals oC D ys k ow)) (hns : NsO oC cm) (hj : J 0 cm ys nx)
    (turn : ∀ i v h tk nx oC cm ys k ow', BlkOk cenv.locals D ow' → vs1[i]? = some v → Fr h₀ L h m → News h₀ L h (nx ++ blk cenv.locals oC D ys k ow') → Off nx (blk cenv.locals oC D ys k ow') → NsO oC cm → J i cm ys nx →
      wpAny (model prog w) A (assign t1 cenv v) (fun _ s₂ => ∃ oC' cm', NsO oC' cm' ∧
        wpAny (model prog w) A (tests f1 cenv) (fun ok s₃ =>
          if ok = true then wpAny (model prog w) A (eval elt cenv) (fun y s₄ => CStay h₀ L m (blk cenv.locals oC' D ys k ow') s (J (i + 1) cm' (ys ++ [y])) s₄) (fun _ _ => False) s₃
          else CStay h₀ L m (blk cenv.locals oC' D ys k ow') s (J (i + 1) cm' ys) s₃) (fun _ _ => False) s₂) (fun _ _ => False) { s with heap := h, toks := tk })
    (hfin : ∀ h tk nx oC cm ys k, Fr h₀ L h m → News h₀ L h (nx ++ blk cenv.locals oC D ys k ow) → Off nx (blk cenv.locals oC D ys k ow) → NsO oC cm → J vs1.length cm ys nx → CHead h₀ L m cenv.locals D ow s₀ (fun _ => Jn) { s with heap := h, toks := tk }) :
    wpAny (model prog w) A (emit2 (.ListComp elt [⟨t0, i0, [], 0⟩, ⟨t1, i1, f1, 0⟩] scope pos) i1 (.ref D) cenv) (fun _ s₄ => CHead h₀ L m cenv.locals D ow s₀ (fun _ => Jn) s₄) (fun _ _ => False) s :=
  wpAny_bind (hev _ fun tk => emit2_core (s := { s with toks := tk }) hh B J hl hlen hs F N hoff hns hj turn hfin)

theorem lc_use2 {cl : List (Str × Addr)} {spos : Pos} {y : Str} {py : Pos} {f0 : List Expr} {Q : Flow → Shared → Prop}
    (hsw : swapsWith (.ListComp elt [⟨t0, i0, f0, 0⟩, ⟨t1, i1, f1, 0⟩] scope pos) (some (.Name y py)) spos.line env = pure true) (hclos : closureFor scope env = pure cl) (hkind : scope.kind = .function)
    (hnames : ∀ x ∈ scope.names, x.2 = .local → scope.names.lookup x.1 = some .local) (hs : ∀ x, foldedSetIterable i0 env x = pure x)
    (h : wpAny (model prog w) A (eval i0 env) (fun x s₁ => wpAny (model prog w) A (pyIter x) (fun it s₂ => wpAny (model prog w) A (newList []) (fun acc s₃ => wpAny (model prog w) A (newFunctionEnv scope env.globals cl [] env.qual none .none (some env)) (fun cenv s₄ =>
      codeAny (model prog w) A (.compStart (.ListComp elt [⟨t0, i0, f0, 0⟩, ⟨t1, i1, f1, 0⟩] scope pos) 0 it acc { cenv with scope := relabel scope env }) (compPost (model prog w) A E (some (assign (.Name y py) env)) (fun _ s' => Q .next s') acc cenv.locals) s₄) E s₃) E s₂) E s₁) E s) :
    wpAny (model prog w) A (exec (.Assign [.Name y py] (.ListComp elt [⟨t0, i0, f0, 0⟩, ⟨t1, i1, f1, 0⟩] scope pos) spos) env) Q E s := by
  rw [exec_Assign_Name_used _ _ _ _ hsw]
  refine wpAny_bind (wpAny_standAt (wpAny_bind ?_))
  show wpAny _ A (do let _ ← comprehension (.ListComp elt [⟨t0, i0, f0, 0⟩, ⟨t1, i1, f1, 0⟩] scope pos) scope env _ (newList []) false (eval i0 env) (some (assign (.Name y py) env))) _ _ s
  exact wpAny_bind (wpAny_mono (wpAny_comprehension_free (use := some (assign (.Name y py) env)) (Q := fun _ s' => Q .next s') rfl hs hclos hkind hnames h) (fun _ s' hq => wpAny_pure (wpAny_pure hq)) fun _ _ e => e)

theorem comp2_list {cl : List (Str × Addr)} {RR : Value → Addr → Result → Shared → Prop} {l : Addr} {vs : List Value} {ln : Nat} {news : Led}
    (hh : A.handled = none) (J : Nat → List Value → Led → Prop) (hl : ∀ i ys nx, J i ys nx → (l, listOf vs.toArray ln) ∈ nx)
    (F : Fr h₀ L s.heap m) (N : News h₀ L s.heap news) (hj : J 0 [] news) (hcell : ∀ y ∈ scope.names, y.2 ≠ .cell) (hkind : scope.kind = .function)
    (turn : ∀ C D i v h tk nx oC cm ys k ow, BlkOk C D ow → vs[i]? = some v → Fr h₀ L h m → News h₀ L h (nx ++ blk C oC D ys k ow) → Off nx (blk C oC D ys k ow) → NsO oC cm → J i ys nx →
      wpAny (model prog w) A (assign t0 (compEnvC scope cl C env) v) (fun _ s₂ =>
        wpAny (model prog w) A (emit2 (.ListComp elt [⟨t0, i0, [], 0⟩, ⟨t1, i1, f1, 0⟩] scope pos) i1 (.ref D) (compEnvC scope cl C env)) (fun _ s₄ => CHead h₀ L m C D ow s (fun _ => J (i + 1)) s₄) (fun _ _ => False) s₂) (fun _ _ => False) { s with heap := h, toks := tk })
    (done : ∀ C D h tk nx oC cm ys k, C ≠ D → (∀ p ∈ news, p.1 < D) → Fr h₀ L h m → News h₀ L h (nx ++ blk C oC D ys k []) → Off nx (blk C oC D ys k []) → NsO oC cm → J vs.length ys nx → RR (.ref D) C (.ok .next) { s with heap := h, toks := tk })
    (hu : ∀ I D C, A.under (.compLoop (.ListComp elt [⟨t0, i0, [], 0⟩, ⟨t1, i1, f1, 0⟩] scope pos) 0 (.ref I) (.ref D) (compEnvC scope cl C env)) = A := by intro _ _ _; rfl) :
    wpAny (model prog w) A (pyIter (.ref l)) (fun it s₂ => wpAny (model prog w) A (newList []) (fun acc s₃ => wpAny (model prog w) A (newFunctionEnv scope env.globals cl [] env.qual none .none (some env)) (fun cenv s₄ =>
      codeAny (model prog w) A (.compStart (.ListComp elt [⟨t0, i0, [], 0⟩, ⟨t1, i1, f1, 0⟩] scope pos) 0 it acc { cenv with scope := relabel scope env }) (RR acc cenv.locals) s₄) E s₃) E s₂) E s := by
  have hls : s.heap.IsList l vs.toArray := ⟨_, (N _ (hl _ _ _ hj)).1, rfl, ln, rfl⟩
  obtain ⟨nL, nI, nn⟩ := new_off F N
  refine wpAny_pyIter_list hls ?_
  have hne : l ≠ s.heap.objs.size := nn _ (hl _ _ _ hj)
  have W := Walks.list (prog := prog) (w := w) hh s.heap.objs.size l hne vs.toArray
  have hlen' : vs.toArray.size = vs.length := by simp
  rw [hlen'] at W
  have hI1 := Heap.size_push s.heap { cls := .type "list_iterator", data := .fields #[.ref l, .int 0 0] }
  have F0 := F.push { cls := .type "list_iterator", data := .fields #[.ref l, .int 0 0] }
  have N0 : News h₀ L (s.heap.push { cls := .type "list_iterator", data := .fields #[.ref l, .int 0 0] }) news := fun p hp => ⟨Heap.get?_push_of_some _ (N p hp).1, (N p hp).2⟩
  have st0 : Heap.IsListIter (s.heap.push { cls := .type "list_iterator", data := .fields #[.ref l, .int 0 0] }) s.heap.objs.size l 0 ∧ (s.heap.push { cls := .type "list_iterator", data := .fields #[.ref l, .int 0 0] }).IsList l vs.toArray := ⟨⟨_, Heap.get?_push_size _ rfl, rfl, rfl⟩, hls.at fun o e => Heap.get?_push_of_some _ e⟩
  generalize s.heap.push { cls := .type "list_iterator", data := .fields #[.ref l, .int 0 0] } = hp at *
  generalize hIe : s.heap.objs.size = I at *
  refine wpAny_newObj_type (wpAny_newFunctionEnv hcell (by intro y hy; simp at hy) (fun h₁ hns₁ hsb₁ => ?_) hkind)
  dsimp only at hns₁ hsb₁ ⊢
  generalize hH2 : hp.push { cls := .type "list", dict := none, data := .seq ([] : List Value).toArray } = H2 at hns₁ hsb₁ ⊢
  have hC : H2.objs.size = hp.objs.size + 1 := by rw [← hH2, Heap.size_push]
  have hIlt : I < hp.objs.size := by rw [hI1]; exact Nat.lt_succ_self _
  have old : ∀ b o, hp.get? b = some o → h₁.get? b = some o := fun b o e =>
    hsb₁.extBut b o (by rw [hC]; exact Nat.ne_of_lt (Nat.lt_succ_of_lt (Heap.lt_size e))) (Heap.get?_push_of_some _ (hH2 ▸ Heap.get?_push_of_some _ e))
  have hDC : hp.objs.size ≠ H2.objs.size := by rw [hC]; exact Nat.ne_of_lt (Nat.lt_succ_self _)
  have hD₁ : h₁.get? hp.objs.size = some (listOf ([] : List Value).toArray 0) := hsb₁.extBut _ _ hDC (Heap.get?_push_of_some _ (hH2 ▸ Heap.get?_push_size _ rfl))
  obtain ⟨oC, hoC, hns⟩ := nsO_of hns₁
  have F₁ : Fr h₀ L h₁ m := ⟨F0.ns.at' fun o e => old _ o e, fun b o e => old b o (F0.keep b o e), F0.above⟩
  have none_at : ∀ a, hp.objs.size ≤ a → h₀.get? a = none ∧ a ≠ L := fun a ha => by
    refine ⟨?_, fun q => absurd F0.ns.lt (by rw [← q]; exact Nat.not_lt.mpr ha)⟩
    cases q : h₀.get? a with
    | none => rfl
    | some o => exact absurd (Heap.lt_size (F0.keep _ _ q)) (Nat.not_lt.mpr ha)
  have hDn := none_at hp.objs.size (Nat.le_refl _)
  have hCn := none_at H2.objs.size (by rw [hC]; exact Nat.le_succ _)
  have nlt : ∀ p ∈ news, p.1 < hp.objs.size := fun p hp' => Heap.lt_size (N0 p hp').1
  have N₁ : News h₀ L h₁ (news ++ blk H2.objs.size oC hp.objs.size [] 0 []) := fun p hp' => by
    rcases blk_cases hp' with hp' | rfl | rfl | hp'
    · exact ⟨old _ _ (N0 p hp').1, (N0 p hp').2⟩
    · exact ⟨hoC, hCn.2, hCn.1⟩
    · exact ⟨hD₁, hDn.2, hDn.1⟩
    · cases hp'
  have hoff : Off news (blk H2.objs.size oC hp.objs.size [] 0 []) := fun q hq p hp' => by
    rcases List.mem_cons.mp hp' with rfl | hp'
    · rw [hC]; exact Nat.ne_of_lt (Nat.lt_succ_of_lt (nlt q hq))
    · rcases List.mem_cons.mp hp' with rfl | hp'
      · exact Nat.ne_of_lt (nlt q hq)
      · cases hp'
  have hCI : H2.objs.size ≠ I := by rw [hC]; exact Nat.ne_of_gt (Nat.lt_succ_of_lt hIlt)
  have hDI : hp.objs.size ≠ I := Nat.ne_of_gt hIlt
  have hst₁ : Heap.IsListIter h₁ I l 0 ∧ h₁.IsList l vs.toArray := ⟨st0.1.at fun o e => old _ o e, st0.2.at fun o e => old _ o e⟩
  have loop : codeAny (model prog w) A (.compLoop (.ListComp elt [⟨t0, i0, [], 0⟩, ⟨t1, i1, f1, 0⟩] scope pos) 0 (.ref I) (.ref hp.objs.size) (compEnvC scope cl H2.objs.size env))
      (RR (.ref hp.objs.size) H2.objs.size) { s with heap := h₁, toks := s.toks } := by
    refine code_comp (s := { s with heap := h₁, toks := s.toks }) (C := H2.objs.size) (D := hp.objs.size) (ow := []) (L := L) (m := m)
      rfl turnIs0 W (fun i h st => let ⟨⟨o, ho, _⟩, _⟩ := st; ⟨o, ho⟩) (fun i s' v Q' E' st hq => letGo_listiter st.1 hq) (fun i _ ys nx => J i ys nx) ?_ hCI hDI nL nI (fun _ hp' => nomatch hp') hst₁ F₁ N₁ hoff nn hns hj ?_ ?_ (hu _ _ _)
    · intro b hb hbI
      rcases List.mem_cons.mp hb with e | hb
      · exact absurd e hbI
      · rw [List.mem_singleton.mp hb]
        exact ⟨_, .inr fun i _ ys nx h => hl i ys nx h⟩
    · intro i v h tk nx oC cm ys k oI hi hP F' N' hoff' hns' hJ
      have B : BlkOk H2.objs.size hp.objs.size [(I, oI)] := ⟨Ne.symm hDC, fun p hp' => by rw [List.mem_singleton.mp hp']; exact Ne.symm hCI, fun p hp' => by rw [List.mem_singleton.mp hp']; exact Ne.symm hDI⟩
      refine wpAny_mono (turn _ _ i v h tk nx oC cm ys k _ B (by simpa using hP) F' N' hoff' hns' hJ) (fun _ s₂ h₂ => ?_) fun _ _ e => e
      rw [List.forIn_nil]
      refine wpAny_pure ?_
      rw [if_pos rfl]
      exact h₂
    · intro h tk nx oC cm ys k F' N' hoff' hns' hJ
      exact done _ _ h tk nx oC cm ys k (Ne.symm hDC) nlt F' N' hoff' hns' hJ
  exact codeAny_compStart_list loop (W.self 0 _ _ _ hst₁ loop)
end
end Mine
end
section
open PySem PySem.W PyProof.Rows PySem.Calls PyProof.V PySem.Spec
set_option maxRecDepth 100000
namespace Mine

def Brk (P : Prop) : Prop := P
theorem brk {P : Prop} (h : Brk P) : P := h
theorem unbrk {P : Prop} (h : P) : Brk P := h

abbrev tupOf (its : Array Value) (n : Nat) : Obj := { cls := .type "tuple", data := .seq its n }

inductive ChIn (led : Led) (v : Value) (c : Int × Int) : Prop
  | mk (a : Addr) (n : Nat) (t u : Tok) (e : v = .ref a) (hm : (a, tupOf #[.int c.1 t, .int c.2 u] n) ∈ led) : ChIn led v c
theorem ChIn.mono {led led' : Led} {v : Value} {c : Int × Int} (h : ChIn led v c) (hs : ∀ p ∈ led, p ∈ led') : ChIn led' v c := h.casesOn fun a n t u e hm => ⟨a, n, t, u, e, hs _ hm⟩

theorem paired_get {α β : Type} {F : α → β → Prop} : ∀ {l₁ : List α} {l₂ : List β}, Paired F l₁ l₂ → ∀ {i : Nat} {a : α}, l₁[i]? = some a → ∃ b, l₂[i]? = some b ∧ F a b
  | _, _, .nil, i, a, h => by simp at h
  | _, _, .cons h t, 0, a, e => by
    simp at e
    subst e
    exact ⟨_, rfl, h⟩
  | _, _, .cons h t, i + 1, a, e => by
    simp at e
    obtain ⟨b, hb, hF⟩ := paired_get t e
    exact ⟨b, by simpa using hb, hF⟩
theorem paired_get' {α β : Type} {F : α → β → Prop} : ∀ {l₁ : List α} {l₂ : List β}, Paired F l₁ l₂ → ∀ {i : Nat} {b : β}, l₂[i]? = some b → ∃ a, l₁[i]? = some a ∧ F a b
  | _, _, .nil, i, a, h => by simp at h
  | _, _, .cons h t, 0, a, e => by
    simp at e
    subst e
    exact ⟨_, rfl, h⟩
  | _, _, .cons h t, i + 1, a, e => by
    simp at e
    obtain ⟨b, hb, hF⟩ := paired_get' t e
    exact ⟨b, by simpa using hb, hF⟩
theorem paired_length {α β : Type} {F : α → β → Prop} : ∀ {l₁ : List α} {l₂ : List β}, Paired F l₁ l₂ → l₁.length = l₂.length
  | _, _, .nil => rfl
  | _, _, .cons _ t => by rw [List.length_cons, List.length_cons, paired_length t]
theorem paired_mono {α β : Type} {F G : α → β → Prop} (hm : ∀ a b, F a b → G a b) : ∀ {l₁ : List α} {l₂ : List β}, Paired F l₁ l₂ → Paired G l₁ l₂
  | _, _, .nil => .nil
  | _, _, .cons h t => .cons (hm _ _ h) (paired_mono hm t)

inductive ChsIn (led : Led) (v : Value) (cs : List (Int × Int)) : Prop
  | mk (l : Addr) (n : Nat) (vs : List Value) (e : v = .ref l) (hm : (l, listOf vs.toArray n) ∈ led) (hp : Paired (ChIn led) vs cs) : ChsIn led v cs
theorem ChsIn.mono {led led' : Led} {v : Value} {cs : List (Int × Int)} (h : ChsIn led v cs) (hs : ∀ p ∈ led, p ∈ led') : ChsIn led' v cs :=
  h.casesOn fun l n vs e hm hp => ⟨l, n, vs, e, hs _ hm, paired_mono (fun _ _ x => x.mono hs) hp⟩

inductive Pt where
  | pos
  | named (cs : List (Int × Int))
  | others

def ChoIn (led : Led) (v : Value) : Pt → Prop
  | .pos => v = .none
  | .named cs => ChsIn led v cs
  | .others => ∃ t, v = .str (Str.ofString "others") t
theorem ChoIn.mono {led led' : Led} {v : Value} {p : Pt} (h : ChoIn led v p) (hs : ∀ p ∈ led, p ∈ led') : ChoIn led' v p := by
  cases p with
  | pos => exact h
  | named cs => exact ChsIn.mono h hs
  | others => exact h
inductive PtIn (led : Led) (v : Value) (p : Pt) : Prop
  | mk (a : Addr) (n : Nat) (vc : Value) (x : Str) (t : Tok) (e : v = .ref a) (hm : (a, tupOf #[vc, .str x t] n) ∈ led) (hc : ChoIn led vc p) : PtIn led v p
theorem PtIn.mono {led led' : Led} {v : Value} {p : Pt} (h : PtIn led v p) (hs : ∀ p ∈ led, p ∈ led') : PtIn led' v p :=
  h.casesOn fun a n vc x t e hm hc => ⟨a, n, vc, x, t, e, hs _ hm, hc.mono hs⟩
inductive PtsIn (led : Led) (v : Value) (ps : List Pt) : Prop
  | mk (l : Addr) (n : Nat) (vs : List Value) (e : v = .ref l) (hm : (l, listOf vs.toArray n) ∈ led) (hp : Paired (PtIn led) vs ps) : PtsIn led v ps
theorem PtsIn.mono {led led' : Led} {v : Value} {ps : List Pt} (h : PtsIn led v ps) (hs : ∀ p ∈ led, p ∈ led') : PtsIn led' v ps :=
  h.casesOn fun l n vs e hm hp => ⟨l, n, vs, e, hs _ hm, paired_mono (fun _ _ x => x.mono hs) hp⟩
end Mine
end
section
open PySem PySem.W PyProof.Rows PySem.Calls PySem.SeqAt
set_option maxRecDepth 100000
namespace Mine
def Meet (P : Prop) : Prop := P
theorem meet {P : Prop} (h : P) : Meet P := h
structure BrkIf : Prop where
section
variable {prog : Program} {w : World} {A : Around} {E : Value → Shared → Prop} {s : Shared} {h₀ : Heap} {L : Addr} {m : Str → Option Value} {news : Led}

theorem isList_of {l : Addr} {xs : List Value} {n : Nat} (N : News h₀ L s.heap news) (h : (l, listOf xs.toArray n) ∈ news) : s.heap.IsList l xs.toArray := ⟨_, (N _ h).1, rfl, n, rfl⟩
theorem isTuple_of {l : Addr} {xs : Array Value} {n : Nat} (N : News h₀ L s.heap news) (h : (l, tupOf xs n) ∈ news) : s.heap.IsTuple l xs := ⟨_, (N _ h).1, rfl, n, rfl⟩

theorem ne_nil {a b : Addr} {xs : List Value} {n k : Nat} {Q : Value → Shared → Prop} (N : News h₀ L s.heap news) (ha : (a, listOf xs.toArray n) ∈ news) (hb : (b, listOf ([] : List Value).toArray k) ∈ news) (hu : A.units < cLine)
    (h : Q (.bool (decide (xs ≠ []))) s) : wpAny (model prog w) A (compareOp .NotEq (.ref a) (.ref b)) Q E s := by
  cases xs with
  | nil => exact RcNeAt.lists (e := fun _ => true) (isList_of N ha) (isList_of N hb) rfl hu (fun j h1 _ => absurd h1 (by simp)) prog w E Q (by simpa using h)
  | cons x xs => exact RcNeAt.lists_lengths (isList_of N ha) (isList_of N hb) (by simp) hu prog w E Q (by simpa using h)
theorem eq_nil {a b : Addr} {xs : List Value} {n k : Nat} {Q : Value → Shared → Prop} (N : News h₀ L s.heap news) (ha : (a, listOf xs.toArray n) ∈ news) (hb : (b, listOf ([] : List Value).toArray k) ∈ news) (hu : A.units < cLine)
    (h : Q (.bool (decide (xs = []))) s) : wpAny (model prog w) A (compareOp .Eq (.ref a) (.ref b)) Q E s := by
  cases xs with
  | nil => exact RcAt.lists (e := fun _ => true) (isList_of N ha) (isList_of N hb) rfl hu (fun j h1 _ => absurd h1 (by simp)) prog w E Q (by simpa using h)
  | cons x xs => exact RcAt.lists_lengths (isList_of N ha) (isList_of N hb) (by simp) hu prog w E Q (by simpa using h)
theorem news_swap {p q : Addr × Obj} {r : Led} {h : Heap} (N : News h₀ L h (p :: q :: r)) : News h₀ L h (q :: p :: r) := fun x hx => N x (by
  rcases List.mem_cons.mp hx with rfl | hx
  · exact .tail _ (.head _)
  · rcases List.mem_cons.mp hx with rfl | hx
    · exact .head _
    · exact .tail _ (.tail _ hx))
theorem lt_all {d : Addr} : ∀ {l : Led}, AllLt d l → ∀ p ∈ l, p.1 < d
  | [], _, _, hp => nomatch hp
  | _ :: _, h, p, hp => by
    rcases List.mem_cons.mp hp with rfl | hp
    · exact h.1
    · exact lt_all h.2 p hp
theorem news_d1 {a : Addr × Obj} {r : Led} {h : Heap} (N : News h₀ L h (a :: r)) : News h₀ L h r := fun x hx => N x (.tail _ hx)
theorem news_d2 {a b : Addr × Obj} {r : Led} {h : Heap} (N : News h₀ L h (a :: b :: r)) : News h₀ L h (a :: r) := fun x hx => N x (by
  rcases List.mem_cons.mp hx with rfl | hx
  · exact .head _
  · exact .tail _ (.tail _ hx))
theorem news_d3 {a b c : Addr × Obj} {r : Led} {h : Heap} (N : News h₀ L h (a :: b :: c :: r)) : News h₀ L h (a :: b :: r) := fun x hx => N x (by
  rcases List.mem_cons.mp hx with rfl | hx
  · exact .head _
  · rcases List.mem_cons.mp hx with rfl | hx
    · exact .tail _ (.head _)
    · exact .tail _ (.tail _ (.tail _ hx)))
theorem news_pull2 {a b c : Addr × Obj} {r : Led} {h : Heap} (N : News h₀ L h (a :: b :: c :: r)) : News h₀ L h (c :: a :: b :: r) := fun x hx => N x (by
  rcases List.mem_cons.mp hx with rfl | hx
  · exact .tail _ (.tail _ (.head _))
  · rcases List.mem_cons.mp hx with rfl | hx
    · exact .head _
    · rcases List.mem_cons.mp hx with rfl | hx
      · exact .tail _ (.head _)
      · exact .tail _ (.tail _ (.tail _ hx)))
theorem news_up {pre post : Led} {p : Addr × Obj} {h : Heap} (N : News h₀ L h (pre ++ p :: post)) : News h₀ L h (p :: (pre ++ post)) := fun x hx => N x (by
  rcases List.mem_cons.mp hx with rfl | hx
  · exact List.mem_append_right _ (.head _)
  · rcases List.mem_append.mp hx with hx | hx
    · exact List.mem_append_left _ hx
    · exact List.mem_append_right _ (.tail _ hx))
theorem news_dn {pre post : Led} {p : Addr × Obj} {h : Heap} (N : News h₀ L h (p :: (pre ++ post))) : News h₀ L h (pre ++ p :: post) := fun x hx => N x (by
  rcases List.mem_append.mp hx with hx | hx
  · exact .tail _ (List.mem_append_left _ hx)
  · rcases List.mem_cons.mp hx with rfl | hx
    · exact .head _
    · exact .tail _ (List.mem_append_right _ hx))
theorem append_led {D : Addr} {xs : List Value} {n : Nat} {v : Value} {rest : Led} {Q : Value → Shared → Prop} (F : Fr h₀ L s.heap m) (N : News h₀ L s.heap ((D, listOf xs.toArray n) :: rest)) (hne : ∀ p ∈ rest, p.1 ≠ D) (hz : xs.length ≤ 100000)
    (h : ∀ h', Fr h₀ L h' m → News h₀ L h' ((D, listOf (xs ++ [v]).toArray (n + 1)) :: rest) → Q .none { s with heap := h' }) : wpAny (model prog w) A (call (.builtin "list.append") [.ref D, v]) Q E s :=
  append_K F N (.head hne) (fun h' F' N' => h h' F' (by rw [show (xs ++ [v]).toArray = xs.toArray.push v by simp]; exact N')) (by rw [List.size_toArray, sizeLine_eq]; omega)
theorem add_led {l b : Addr} {xs ys : List Value} {n k : Nat} {Q : Value → Shared → Prop} (F : Fr h₀ L s.heap m) (N : News h₀ L s.heap news) (hl : (l, listOf xs.toArray n) ∈ news) (hb : (b, listOf ys.toArray k) ∈ news) (hz : xs.length + ys.length ≤ 100000)
    (h : ∀ D h', Fr h₀ L h' m → News h₀ L h' ((D, listOf (xs ++ ys).toArray 0) :: news) → (∀ p ∈ news, p.1 < D) → Q (.ref D) { s with heap := h' }) : wpAny (model prog w) A (binaryOp .Add (.ref l) (.ref b)) Q E s :=
  add_lists F N (isList_of N hl) (isList_of N hb) (fun h' F' N' => h _ h' F' N' fun _ hp => Heap.lt_size (N _ hp).1) (by rw [sizeLine_eq]; omega)
theorem cut_next {t : Sem Flow} {Q : Flow → Shared → Prop} (R : Shared → Prop) (h : wpAny (model prog w) A t (fun f s' => Meet (f = .next ∧ R s')) E s) (k : ∀ s', R s' → Q .next s') : wpAny (model prog w) A t Q E s :=
  wpAny_mono h (fun f s' x => x.1 ▸ k s' x.2) fun _ _ e => e
theorem fr_eq {h : Heap} {m' : Str → Option Value} (F : Fr h₀ L h m) (e : ∀ y, m y = m' y) : Fr h₀ L h m' := by rw [← funext e]; exact F
theorem len_led {l : Addr} {vs : List Value} {n : Nat} {Q : Value → Shared → Prop} (N : News h₀ L s.heap news) (hm : (l, listOf vs.toArray n) ∈ news) (hb : vs.length ≤ 1000000) (h : Q (.int vs.length (s.toks + 1)) { s with toks := s.toks + 1 + 1 }) :
    wpAny (model prog w) A (call (.builtin "len") [.ref l]) Q E s := call_len_list (isList_of N hm) (by rw [List.size_toArray]; omega) (by rw [List.size_toArray]; exact h)
end
end Mine
end
section
open PySem PySem.W PyProof.Rows PySem.Calls PySem.SeqAt
set_option maxRecDepth 100000
namespace Mine
structure BrkSub : Prop where
section
variable {prog : Program} {w : World} {A : Around} {E : Value → Shared → Prop} {s : Shared} {h₀ : Heap} {L : Addr} {m : Str → Option Value} {news : Led}

theorem sub_at {value slice : PySem.Expr} {l : Addr} {vs : List Value} {n : Nat} {k : Int} {u : Tok} {v : Value} {Q : Value → Shared → Prop} (N : News h₀ L s.heap news) (hm : (l, listOf vs.toArray n) ∈ news) (h0 : 0 ≤ k) (hfit : k < 2 ^ 63) (hx : vs[k.toNat]? = some v) (h : Q v s)
    (hs : subscripted slice false (.ref l) (.int k u) = operate [.ref l, .int k u] (getItem (.ref l) (.int k u)) := by with_unfolding_all rfl) :
    wpAny (model prog w) A (subscriptTail value slice (.ref l) (.int k u)) Q E s := by
  have hl := isList_of N hm
  exact tail_any hl.typeIs slot_list_getitem.lookup (wpAny_getItem_list hl h0 hfit (by simpa using hx) h) hs
theorem sub_last {value slice : PySem.Expr} {l : Addr} {vs : List Value} {n : Nat} {u : Tok} {v : Value} {Q : Value → Shared → Prop} (N : News h₀ L s.heap news) (hm : (l, listOf vs.toArray n) ∈ news) (hx : vs[vs.length - 1]? = some v) (h : Q v s)
    (hs : subscripted slice false (.ref l) (.int (-1) u) = operate [.ref l, .int (-1) u] (getItem (.ref l) (.int (-1) u)) := by with_unfolding_all rfl) :
    wpAny (model prog w) A (subscriptTail value slice (.ref l) (.int (-1) u)) Q E s := by
  have hlt : vs.length - 1 < vs.length := by
    rcases Nat.lt_or_ge (vs.length - 1) vs.length with h | h
    · exact h
    · rw [List.getElem?_eq_none h] at hx; cases hx
  refine kde_neg (isList_of N hm) (by decide) (by decide) (j := vs.length - 1) ?_ hx h hs
  unfold seqIndex?
  have e1 : (-1 : Int) + (vs.length : Int) = ((vs.length - 1 : Nat) : Int) := by omega
  simp only [show (-1 : Int) < 0 by decide, if_true, e1]
  rw [if_pos (by simp; omega)]
  simp
theorem sub_tup {value slice : PySem.Expr} {t : Addr} {its : List Value} {n : Nat} {k : Int} {u : Tok} {x : Value} {Q : Value → Shared → Prop} (N : News h₀ L s.heap news) (hm : (t, tupOf its.toArray n) ∈ news) (h0 : 0 ≤ k) (hfit : k < 2 ^ 63) (hx : its[k.toNat]? = some x) (h : Q x s)
    (hs : subscripted slice false (.ref t) (.int k u) = operate [.ref t, .int k u] (getItem (.ref t) (.int k u)) := by with_unfolding_all rfl) :
    wpAny (model prog w) A (subscriptTail value slice (.ref t) (.int k u)) Q E s := by
  have hlt : k.toNat < its.length := by
    rcases Nat.lt_or_ge k.toNat its.length with h | h
    · exact h
    · rw [List.getElem?_eq_none h] at hx; cases hx
  refine item_tupleT (j := k.toNat) (News.isTup N hm) (by omega) hfit ?_ hx h hs
  unfold seqIndex?
  simp only [show ¬ k < 0 by omega, if_false]
  rw [if_pos (by simp; omega)]
theorem set_led {D : Addr} {vs : List Value} {n : Nat} {k : Int} {t : Tok} {v : Value} {rest : Led} {Q : Unit → Shared → Prop} (F : Fr h₀ L s.heap m) (N : News h₀ L s.heap ((D, listOf vs.toArray n) :: rest)) (hne : ∀ p ∈ rest, p.1 ≠ D) (h0 : 0 ≤ k) (h1 : k < vs.length) (hfit : k < 2 ^ 63)
    (h : ∀ h', Fr h₀ L h' m → News h₀ L h' ((D, listOf (vs.set k.toNat v).toArray n) :: rest) → Q () { s with heap := h' }) :
    wpAny (model prog w) A (setItem (.ref D) (.int k t) v) Q E s := by
  have z := N _ (.head _)
  refine ki_setAt z.1 h0 hfit (by rw [List.size_toArray]; omega) (h _ (F.change (Heap.SameBut.update ..) z.2.1 z.2.2) (ki_turn (pre := []) _ N (fun _ hp => nomatch hp) hne ?_ ?_))
  · apply Array.toList_inj.mp
    simp
  · simp
theorem assign_pair {env : Env} {x y : Str} {px py pp : Pos} {kk : Nat} {t : Addr} {tn : Nat} {vx vy : Value} {Q : Unit → Shared → Prop} (hh : A.handled = none) (hk : env.scope.kind = .function) (hx : env.kindOf x = some .local) (hy : env.kindOf y = some .local)
    (F : Fr h₀ env.locals s.heap m) (N : News h₀ env.locals s.heap news) (ht : (t, tupOf #[vx, vy] tn) ∈ news)
    (h : ∀ h' tk, Fr h₀ env.locals h' (fun z => if z = y then some vy else if z = x then some vx else m z) → News h₀ env.locals h' news → Q () { s with heap := h', toks := tk }) :
    wpAny (model prog w) A (assign (.Tuple [.Name x px, .Name y py] kk pp) env (.ref t)) Q E s := by
  refine wpAny_assign_Tuple hh (isTuple_of N ht) rfl rfl fun h₁ he => ?_
  obtain ⟨nL, nI, nn⟩ := new_off F N
  have F₁ : Fr h₀ env.locals h₁ m := ⟨F.ns.at' fun o e => he _ o nL e, fun b o e => he b o (fun q => by rw [q, nI] at e; cases e) (F.keep b o e), F.above⟩
  have N₁ : News h₀ env.locals h₁ news := fun p hp => ⟨he _ _ (nn p hp) (N p hp).1, (N p hp).2⟩
  show wpAny (model prog w) A (assignInOrder [assign (.Name x px) env, assign (.Name y py) env] [vx, vy]) Q E _
  unfold assignInOrder
  refine wpAny_bind (wpAny_holding (wpAny_assign_Name (wpAny_storeName_local hx F₁.ns (fun h₂ hn₂ hs₂ => ?_) (cenv_plain hk))))
  have F₂ := F₁.set hn₂ hs₂
  have N₂ := N₁.set hs₂
  unfold assignInOrder
  refine wpAny_bind (wpAny_holding (wpAny_assign_Name (wpAny_storeName_local hy F₂.ns (fun h₃ hn₃ hs₃ => ?_) (cenv_plain hk))))
  unfold assignInOrder
  exact wpAny_pure (h h₃ _ (F₂.set hn₃ hs₃) (N₂.set hs₃))
theorem fr_has {h : Heap} {x : Str} {v : Value} (F : Fr h₀ L h m) (e : m x = some v) : Fr h₀ L h (fun y => if y = x then some v else m y) := fr_eq F fun y => by
  by_cases hy : y = x
  · rw [if_pos hy, hy, e]
  · rw [if_neg hy]
def Pt.isOth : Pt → Bool
  | .others => true
  | _ => false
theorem cho_eq {v : Value} {p : Pt} {u : Tok} {Q : Value → Shared → Prop} (N : News h₀ L s.heap news) (hc : ChoIn news v p) (hu : A.units < cLine) (h : Q (.bool p.isOth) s) : wpAny (model prog w) A (compareOp .Eq v (.str (Str.ofString "others") u)) Q E s := by
  cases p with
  | pos =>
    obtain rfl : v = .none := hc
    exact RcAt.none_str _ _ prog w E Q h
  | named cs =>
    obtain ⟨l, n, vs, rfl, hm, _⟩ := hc
    exact RcAt.list_str _ _ (isList_of N hm) hu prog w E Q h
  | others =>
    obtain ⟨t, rfl⟩ := hc
    refine RcAt.str_str _ _ _ _ prog w E Q ?_
    rw [beq_self_eq_true]
    exact h
theorem cho_ne {v : Value} {p : Pt} {u : Tok} {Q : Value → Shared → Prop} (N : News h₀ L s.heap news) (hc : ChoIn news v p) (hu : A.units < cLine) (h : Q (.bool (!p.isOth)) s) : wpAny (model prog w) A (compareOp .NotEq v (.str (Str.ofString "others") u)) Q E s := by
  cases p with
  | pos =>
    obtain rfl : v = .none := hc
    exact RcNeAt.none_str _ _ prog w E Q h
  | named cs =>
    obtain ⟨l, n, vs, rfl, hm, _⟩ := hc
    exact RcNeAt.list_str _ _ (isList_of N hm) hu prog w E Q h
  | others =>
    obtain ⟨t, rfl⟩ := hc
    refine RcNeAt.str_str _ _ _ _ prog w E Q ?_
    rw [beq_self_eq_true]
    exact h
def IntV (v : Value) (x : Int) : Prop := ∃ t, v = .int x t
end
end Mine
end
section
open PySem PySem.W PyProof.Rows PySem.Calls Builtin Builtin.ObjectAttr Builtin.Getset_descriptor
set_option maxRecDepth 100000
namespace Mine
section
variable {prog : Program} {w : World} {A : Around} {K : Frag} {C x : Addr} {s : Shared} {h₀ : Heap} {L : Addr} {m : Str → Option Value} {news news' : Led}

abbrev excO (C : Addr) (d : Option Addr) (vs : Array Value) : Obj := { cls := .ref C, dict := d, data := .fields vs }

theorem osa_exc {R : Result → Shared → Prop} {ox : Obj} {od : Option Obj} {name : Str} {tk : Tok} {v : Value} {cd : ClassData} (X : K.In s.heap) (I : InstAt s.heap x ox C od) (hc : clsIn K C = some cd)
    (hsub : subIn K (.ref C) (.type "object") = some true) (hrf : refuseLoop (.ref x) "__setattr__" cd.mro = pure ()) (ht : takerIn K C name = some none)
    (h : ∀ b, wpAny (model prog w) A.in1 (storeInOwnDict (.ref x) (.ref C) (.str name tk) name v b)
      (fun fin s' => match fin with | .done f => R (.ok f) s' | .again c' => c'.quiet = true ∧ codeAny (model prog w) A c' R s') (fun e s' => R (.error e) s') s) :
    codeAny (model prog w) A (.call (.builtin "object.__setattr__") ⟨[.ref x, .str name tk, v], []⟩) R s := by
  have SF := PySem.F.store_object
  have sub : Looks (model prog w) s.heap (isInstance (.ref x) (.type "object")) true := I.type.andThen (looks_subIn X hsub)
  refine codeAny_call_builtin SF.slot.plain SF.entry (@check_slot (model prog w) _ _ s "object.__setattr__" "object" "__setattr__" (.ref x) [.str name tk, v] [] _ SF.kind SF.split sub (SF.args (.ref x) (.str name tk) v) ?_)
  obtain ⟨attr, ha, hr⟩ := Option.bind_eq_some_iff.mp ht
  have hm : Looks (model prog w) s.heap (mroOf (.ref C)) cd.mro := (looks_clsIn X hc).andThen .now
  have taker : Looks (model prog w) s.heap (storeTaker? attr) none := by
    cases attr with
    | none => exact .now
    | some a =>
      obtain ⟨b, hb, hn⟩ := Option.map_eq_some_iff.mp hr
      cases b with
      | true => cases hn
      | false => exact (looks_takesIn X hb).andThen .now
  rw [osa_eq, refuse_eq]
  refine wpAny_bind (wpAny_bind (I.type.here (wpAny_bind (hm.here ?_))))
  rw [hrf]
  exact wpAny_pure (wpAny_bind (I.type.here (wpAny_bind ((looks_findIn X ha).here (wpAny_bind (taker.here (h _)))))))

theorem store_led {Q : Fin → Shared → Prop} {E : Value → Shared → Prop} {dx : Addr} {es es' : List DictEntry} {n n' : Nat} {name : Str} {tk : Tok} {v : Value} (F : Fr h₀ L s.heap m) (N : News h₀ L s.heap news)
    (hl : (getL name es).isSome = true) (e : (putL name (PyData.keyHash w.params name) (.str name s.toks) v es, putN name es n) = (es', n')) (U : Upd dx (dictOf es n) (dictOf es' n') news news') (hz : es'.length ≤ 1000)
    (h : ∀ h', Fr h₀ L h' m → News h₀ L h' news' → Q (.done (.ret .none)) { s with heap := h', toks := s.toks + 1 }) :
    wpAny (model prog w) A (storeInDict dx (.str name tk) name v) Q E s := by
  obtain ⟨pre, post, rfl, rfl, h1, h2⟩ := U.split
  obtain ⟨e1, e2⟩ := Prod.mk.inj e
  have ep : Obj.putName name (PyData.keyHash w.params name) (.str name s.toks) v (dictOf es n) = dictOf es' n' := by rw [putName_dict, e1, e2]
  obtain ⟨U1, U2⟩ := news_upd (f := Obj.putName name (PyData.keyHash w.params name) (.str name s.toks) v) F N h1 h2 ep rfl
  have D := (N (dx, dictOf es n) (by simp)).1
  have D' := (U2 (dx, dictOf es' n') (by simp)).1
  refine wpAny_bind (wpAny_pure (wpAny_bind ?_))
  unfold nsSet
  refine wpAny_bind (wpAny_bind (wpAny_askSetting (wpAny_pure (wpAny_bind (wpAny_mkText (wpAny_bind (wpAny_loadPart D ?_)))))))
  have c : (!es.toArray.any (·.key.isStr name) && es.toArray.any (·.refKey)) = false := by
    rw [← Array.any_toList, ← Array.any_toList]
    unfold getL at hl
    cases hf : es.find? (·.key.isStr name) with
    | some en => 
      rw [List.any_eq_true.mpr ⟨en, List.mem_of_find?_eq_some hf, List.find?_some hf⟩]
      rfl
    | none =>
      rw [hf] at hl
      dsimp only at hl
      cases hr : es.any (·.refKey) with
      | true => rw [hr] at hl; cases hl
      | false => exact Bool.and_false _
  dsimp only
  rw [aRefKeyMayBeTheName_at, c]
  refine wpAny_updatePart D ?_
  exact wpAny_bind (wpAny_lookBehind D' (pastItsLine_dict (by rw [List.size_toArray, sizeLine_eq]; omega)) (wpAny_pure (h _ U1 U2)))

theorem set_excD {Q : Unit → Shared → Prop} {E : Value → Shared → Prop} {dx : Addr} {vs : Array Value} {es es' : List DictEntry} {n n' : Nat} {name : Str} {v : Value} {cd : ClassData} (F : Fr h₀ L s.heap m) (X₀ : K.In h₀) (N : News h₀ L s.heap news)
    (hx : (x, excO C (some dx) vs) ∈ news) (hdx : (dx, dictOf es n) ∈ news) (hc : clsIn K C = some cd) (hd : cd.hasDict = true)
    (hs : findIn K (.ref C) "__setattr__" = some (some (.builtin "object.__setattr__"))) (hsub : subIn K (.ref C) (.type "object") = some true) (hrf : refuseLoop (.ref x) "__setattr__" cd.mro = pure ()) (ht : takerIn K C name = some none)
    (hl : (getL name es).isSome = true) (e : (putL name (PyData.keyHash w.params name) (.str name (s.toks + 1)) v es, putN name es n) = (es', n')) (U : Upd dx (dictOf es n) (dictOf es' n') news news') (hz : es'.length ≤ 1000)
    (h : ∀ h', Fr h₀ L h' m → News h₀ L h' news' → Q () { s with heap := h', toks := s.toks + 1 + 1 }) :
    wpAny (model prog w) A (setAttr (.ref x) name v) Q E s := by
  have X := X₀.keeps F.keep
  have I : InstAt s.heap x (excO C (some dx) vs) C (some (dictOf es n)) := ⟨(N _ hx).1, rfl, rfl, (N _ hdx).1⟩
  refine set_plain X I hs (osa_exc (s := { s with toks := s.toks + 1 }) X I hc hsub hrf ht fun b => ?_)
  unfold storeInOwnDict
  refine wpAny_bind (wpAny_pure ?_)
  refine wpAny_bind (wpAny_bind (wpAny_loadPart (N _ hx).1 (wpAny_bind (Looks.here (s := { s with toks := s.toks + 1 }) (looks_clsIn X hc) ?_))))
  rw [hd]
  refine wpAny_pure (a := some dx) ?_
  exact store_led (s := { s with toks := s.toks + 1 }) F N hl e U hz fun h' F' N' => h h' F' N'

theorem set_exc0 {Q : Unit → Shared → Prop} {E : Value → Shared → Prop} {vs : Array Value} {es' : List DictEntry} {n' : Nat} {name : Str} {v : Value} {cd : ClassData} {rest : Led} (F : Fr h₀ L s.heap m) (X₀ : K.In h₀) (N : News h₀ L s.heap ((x, excO C none vs) :: rest)) (hne : ∀ p ∈ rest, p.1 ≠ x)
    (hc : clsIn K C = some cd) (hd : cd.hasDict = true)
    (hs : findIn K (.ref C) "__setattr__" = some (some (.builtin "object.__setattr__"))) (hsub : subIn K (.ref C) (.type "object") = some true) (hrf : refuseLoop (.ref x) "__setattr__" cd.mro = pure ()) (ht : takerIn K C name = some none)
    (e : (putL name (PyData.keyHash w.params name) (.str name (s.toks + 1)) v [], putN name [] 0) = (es', n')) (hz : es'.length ≤ 1000)
    (h : ∀ h' dx, Fr h₀ L h' m → News h₀ L h' ((x, excO C (some dx) vs) :: (dx, dictOf es' n') :: rest) → (∀ p ∈ rest, p.1 < dx) → x < dx → Q () { s with heap := h', toks := s.toks + 1 + 1 }) :
    wpAny (model prog w) A (setAttr (.ref x) name v) Q E s := by
  have X := X₀.keeps F.keep
  have hx := N _ (.head _)
  have hlt := Heap.lt_size hx.1
  have I : InstAt s.heap x (excO C none vs) C none := ⟨hx.1, rfl, rfl, True.intro⟩
  refine set_plain X I hs (osa_exc (s := { s with toks := s.toks + 1 }) X I hc hsub hrf ht fun b => ?_)
  unfold storeInOwnDict
  refine wpAny_bind (wpAny_pure ?_)
  refine wpAny_bind (wpAny_bind (wpAny_loadPart hx.1 (wpAny_bind (Looks.here (s := { s with toks := s.toks + 1 }) (looks_clsIn X hc) ?_))))
  rw [hd]
  have N1 := News.push F N emptyDict
  have F1 := F.push emptyDict
  obtain ⟨F2, N2⟩ := news_upd (f := fun o => { o with dict := some s.heap.objs.size }) (pre := [(s.heap.objs.size, emptyDict)]) (post := rest) F1 N1 (fun p hp => by rw [List.mem_singleton.mp hp]; exact Nat.ne_of_gt hlt) hne (o' := excO C (some s.heap.objs.size) vs) rfl rfl
  refine wpAny_bind (wpAny_alloc (wpAny_bind (wpAny_update (N1 _ (.tail _ (.head _))).1 ?_)))
  refine wpAny_pure (a := some s.heap.objs.size) ?_
  refine store_led (s := { s with heap := _, toks := s.toks + 1 }) F2 (news_swap N2) rfl e (.tail (Nat.ne_of_lt hlt) (.head fun p hp => Nat.ne_of_lt (Heap.lt_size (N p (.tail _ hp)).1))) hz fun h' F' N' => ?_
  exact h h' _ F' N' (fun p hp => Heap.lt_size (N p (.tail _ hp)).1) hlt

structure ExcCls (K : Frag) (C : Addr) (cd : ClassData) : Prop where
  obj : ∃ oc od sl, K.lookup C = some ⟨oc, od, .cls cd, sl⟩ ∧ (sl.toList[4]?).join = some (.builtin "Exception.__new__")
  del : cd.hasDel = false
  mro : ∃ r, cd.mro = .ref C :: r
  exc : subIn K (.ref C) (.type "Exception") = some true
  base : subIn K (.ref C) (.type "BaseException") = some true
  attr : subIn K (.ref C) (.type "AttributeError") = some false
  nam : subIn K (.ref C) (.type "NameError") = some false
  self : subIn K (.ref C) (.ref C) = some true
  typ : instIn K (.ref C) (.type "type") = some true
  call : specialIn K (.ref C) "__call__" = some (some (.builtin "type.__call__"))
  cls : clsIn K C = some cd
theorem ExcCls.made {M : Model} {h : Heap} {cd : ClassData} (Y : ExcCls K C cd) (X : K.In h) : Looks M h (Bind.madeBy (.ref C)) (some "Exception.__new__") := by
  obtain ⟨oc, od, sl, ho, h4⟩ := Y.obj
  obtain ⟨r, hr⟩ := Y.mro
  intro A Q E s k q
  unfold Bind.madeBy
  have hm : Looks M h (mroOf (.ref C)) cd.mro := (looks_clsIn X Y.cls).andThen .now
  refine wpAny_bind (hm A _ E s k ?_)
  rw [hr, List.forIn_cons]
  refine wpAny_bind (wpAny_bind (wpAny_bind (wpAny_bind (wpAny_loadPart (k _ _ (X _ _ ho)) (wpAny_pure ?_)))))
  dsimp only
  rw [← Array.getElem?_toList, h4]
  exact wpAny_pure (wpAny_pure (wpAny_pure q))
theorem ExcCls.solid {M : Model} {h : Heap} {cd : ClassData} (Y : ExcCls K C cd) (X : K.In h) : Looks M h (Bind.staticBase (.ref C)) (.ref C) := by
  obtain ⟨r, hr⟩ := Y.mro
  have hm : Looks M h (mroOf (.ref C)) cd.mro := (looks_clsIn X Y.cls).andThen .now
  intro A Q E s k q
  unfold Bind.staticBase
  refine wpAny_bind (hm A _ E s k ?_)
  rw [hr, List.forIn_cons]
  exact wpAny_bind (wpAny_bind (wpAny_bind (Y.made X A _ E s k (wpAny_pure (wpAny_pure (wpAny_pure q))))))

theorem exc_new {R : Result → Shared → Prop} {cd : ClassData} {h : Heap} {g : Array GenState} {d : Drawn} {t : Nat} {os : OsState} {rest : List Value} (Y : ExcCls K C cd) (X : K.In h) (hrest : rest.length ≤ 100)
    (hq : R (.ok (.ret (.ref (h.objs.size + 1)))) ⟨(h.push { cls := .type "tuple", data := .seq rest.toArray }).push (excO C none #[.ref h.objs.size, .none, .none, .none, .bool false, .none]), g, d, t, os⟩) :
    codeAny (model prog w) A (.call (.builtin "Exception.__new__") ⟨.ref C :: rest, []⟩) R ⟨h, g, d, t, os⟩ := by
  have Fn := PySem.F.excBase_Exception
  have made := Y.made (M := model prog w) X
  have solid := Y.solid (M := model prog w) X
  have typ : Looks (model prog w) h (isInstance (.ref C) (.type "type")) true := looks_instIn X Y.typ
  have subE : Looks (model prog w) h (isSubtype (.ref C) (.type "Exception")) true := looks_subIn X Y.exc
  have subA : Looks (model prog w) h (isSubtype (.ref C) (.type "AttributeError")) false := looks_subIn X Y.attr
  have subN : Looks (model prog w) h (isSubtype (.ref C) (.type "NameError")) false := looks_subIn X Y.nam
  obtain ⟨oc, od, sl, ho, h4⟩ := Y.obj
  have hC := X _ _ ho
  refine codeAny_call_builtin_code (Code.quiet_builtin _ Fn.quiet) ?_
  simp only [checkBuiltinCall, Fn.newKind, Fn.newSplit, Fn.newRow]
  repeat (first | simp only [bne_self_eq_false, Bool.false_eq_true, if_false] | lk)
  have hends := Fn.ends
  have here : Looks (model prog w) h (Bind.madeHere "BaseException.__new__" (.ref C)) () := solid.andThen (made.andThen (Looks.of_pure (by simp only [Option.map_some, Fn.canon, bne_self_eq_false, Bool.false_eq_true, if_false])))
  have isT : Looks (model prog w) h (isType (.ref C)) true := (Looks.ld (part := some headPart) hC).andThen .now
  refine codeAny_builtinAt Fn.entry ?_
  unfold Builtin.«BaseException.__new__»
  refine PySem.wpAt_bind ?_
  show PySem.wpAt _ _ _ (stack >>= _) _ _ _
  refine PySem.wpAt_bind (PySem.wpAt_stack fun p below => PySem.wpAt_of_wpAny ?_)
  wp_walk
  refine PySem.wpAt_of_wpAny ?_
  rw [Fn.owner]
  repeat (first | simp only [Bool.not_true, Bool.false_eq_true, if_false] | lk)
  refine (wpAny_newTuple (items := rest) ?_ (by rw [sizeLine_eq]; omega) : wpAny _ _ (newTuple rest) _ _ _)
  dsimp only
  refine wpAny_bind ?_
  show wpAny _ _ (newObjAsIs _ _ _) _ _ _
  unfold newObjAsIs classHasDel
  refine wpAny_bind (wpAny_alloc (wpAny_bind (wpAny_bind (wpAny_load (Heap.get?_push_of_some _ (Heap.get?_push_of_some _ hC)) (wpAny_pure ?_)))))
  rw [Y.del]
  refine wpAny_pure (wpAny_pure ?_)
  show R _ _
  rw [Heap.size_push]
  exact hq

theorem init_exc {Q : Value → Shared → Prop} {E : Value → Shared → Prop} {d : Option Addr} {vs : Array Value} {v : Value} {t0 : Addr} {rest : Led} (F : Fr h₀ L s.heap m) (X₀ : K.In h₀) (N : News h₀ L s.heap ((x, excO C d vs) :: rest)) (hne : ∀ p ∈ rest, p.1 ≠ x)
    (hv : vs[0]? = some (.ref t0)) {cd : ClassData} (Y : ExcCls K C cd)
    (h : ∀ h' T, Fr h₀ L h' m → News h₀ L h' ((x, excO C d (vs.setIfInBounds 0 (.ref T))) :: (T, tupOf #[v] 0) :: rest) → (∀ p ∈ rest, p.1 < T) → x < T → Q .none { s with heap := h' }) :
    wpAny (model prog w) A (call (.builtin "Exception.__init__") [.ref x, v]) Q E s := by
  have Fn := PySem.F.excBase_Exception
  have X := X₀.keeps F.keep
  have hx := N _ (.head _)
  have hlt := Heap.lt_size hx.1
  have typ : Looks (model prog w) s.heap (typeOf (.ref x)) (.ref C) := (Looks.ld (part := none) hx.1).andThen .now
  have sub : Looks (model prog w) s.heap (isInstance (.ref x) (.type "Exception")) true := typ.andThen (looks_subIn X Y.exc)
  obtain ⟨oc, od, sl, ho, _⟩ := Y.obj
  have hC := X _ _ ho
  refine wpAny_call (codeAny_call_builtin Fn.init.plain Fn.initEntry ?_)
  obtain ⟨hh, gg, dd, tt, ooss⟩ := s
  have hx0 := hx.1
  have N1 := News.push F N { cls := .type "tuple", data := .seq #[v] }
  have F1 := F.push { cls := .type "tuple", data := .seq #[v] }
  obtain ⟨F2, N2⟩ := news_upd (f := Obj.mapFields (·.setIfInBounds 0 (Value.ref hh.objs.size))) (pre := [(hh.objs.size, tupOf #[v] 0)]) (post := rest) F1 N1 (fun p hp => by rw [List.mem_singleton.mp hp]; exact Nat.ne_of_gt hlt) hne (o' := excO C d (vs.setIfInBounds 0 (.ref hh.objs.size))) rfl rfl
  have hx1 : (hh.push { cls := .type "tuple", data := .seq #[v] }).get? x = some (excO C d vs) := (N1 _ (.tail _ (.head _))).1
  have last := h _ _ F2 (news_swap N2) (fun p hp => Heap.lt_size (N p (.tail _ hp)).1) hlt
  simp only [checkBuiltinCall, Fn.initKind, Fn.initSplit, Fn.initRow]
  repeat (first | simp only [bne_self_eq_false, Bool.false_eq_true, if_false] | lk)
  simp only [hv]
  refine wpAny_pure (wpAny_bind (wpAny_setField hx1 rfl (Array.getElem?_eq_some_iff.mp hv).1 (wpAny_letGo (wpAny_pure last))))

theorem make_exc {R : Result → Shared → Prop} {cd : ClassData} {rest : List Value} {fI : Addr} (Y : ExcCls K C cd) (F : Fr h₀ L s.heap m) (N : News h₀ L s.heap news) (X : K.In s.heap) (hrest : rest.length ≤ 100)
    (hi : findIn K (.ref C) "__init__" = some (some (.ref fI))) (hf : typeIn K (.ref fI) = some (.type "function"))
    (hq : ∀ x t h', Fr h₀ L h' m → News h₀ L h' ((x, excO C none #[.ref t, .none, .none, .none, .bool false, .none]) :: (t, tupOf rest.toArray 0) :: news) → (∀ p ∈ news, p.1 < t) → t < x →
      codeAny (model prog w) (A.under (.builtin "type.__call__" ⟨.ref C :: rest, []⟩)) (.call (.ref fI) ⟨.ref x :: rest, []⟩) (InitBack x R) { s with heap := h' }) :
    codeAny (model prog w) A (.call (.ref C) ⟨rest, []⟩) R s := by
  obtain ⟨h, g, d, t, os⟩ := s
  obtain ⟨oc, od, sl, ho, _⟩ := Y.obj
  obtain ⟨rm, hmr⟩ := Y.mro
  have hC : h.get? C = some ⟨oc, od, .cls cd, sl⟩ := X _ _ ho
  have call : Looks (model prog w) h (specialOf (.ref C) "__call__") (some (.builtin "type.__call__")) := looks_specialIn X Y.call
  have typ : Looks (model prog w) h (isInstance (.ref C) (.type "type")) true := looks_instIn X Y.typ
  have made := Y.made (M := model prog w) X
  have e4 : cd.mro.isEmpty = false := by rw [hmr]; rfl
  refine codeAny_of_tree ?_
  show wpAny _ _ (callAny (.ref C) _) _ _ _
  refine nd_load hC ?_
  show wpAny _ _ (callAny.viaDunder (.ref C) _) _ _ _
  unfold callAny.viaDunder
  refine wpAny_bind (call.at ?_)
  dsimp only
  rw [tc_bind]
  refine wpAny_bind (wpAny_pure (wpAny_bind (wpAny_pure ?_)))
  refine wpAny_pure (a := Fin.again (.call (.builtin "type.__call__") ⟨.ref C :: rest, []⟩)) (And.intro rfl ?_)
  refine codeAny_call_builtin_at (Code.quiet_builtin _ (by decide +kernel)) entry_typeCall (check_slot tc_kind tc_split typ (tc_args _ _ _) ?_)
  unfold Builtin.«type.__call__»
  have hm : Looks (model prog w) h (mroOf (.ref C)) cd.mro := ((Looks.ld (part := none) hC).andThen .now).andThen .now
  repeat (first | simp only [e4, Bool.false_eq_true, if_false] | with_reducible refine wpAny_call ?_ | lk)
  refine exc_new Y X hrest ?_
  have F1 := F.push { cls := .type "tuple", data := .seq rest.toArray }
  have N1 := News.push F N { cls := .type "tuple", data := .seq rest.toArray }
  have F2 := F1.push (excO C none #[.ref h.objs.size, .none, .none, .none, .bool false, .none])
  have N2 := News.push F1 N1 (excO C none #[.ref h.objs.size, .none, .none, .none, .bool false, .none])
  have N2' : News h₀ L ((h.push { cls := .type "tuple", data := .seq rest.toArray }).push (excO C none #[.ref h.objs.size, .none, .none, .none, .bool false, .none])) ((h.objs.size + 1, excO C none #[.ref h.objs.size, .none, .none, .none, .bool false, .none]) :: (h.objs.size, tupOf rest.toArray 0) :: news) := by
    have := N2
    rw [Heap.size_push] at this
    exact this
  have hx := (N2' _ (.head _)).1
  have X2 : K.In ((h.push { cls := .type "tuple", data := .seq rest.toArray }).push (excO C none #[.ref h.objs.size, .none, .none, .none, .bool false, .none])) := fun b o e => Heap.get?_push_of_some _ (Heap.get?_push_of_some _ (X b o e))
  have hgo := hq (h.objs.size + 1) h.objs.size _ F2 N2' (fun p hp => Heap.lt_size (N p hp).1) (Nat.lt_succ_self _)
  generalize (h.push { cls := .type "tuple", data := .seq rest.toArray }).push (excO C none #[.ref h.objs.size, .none, .none, .none, .bool false, .none]) = h2 at *
  have t1 : Looks (model prog w) h2 (typeOf (.ref (h.objs.size + 1))) (.ref C) := (Looks.ld (part := none) hx).andThen .now
  have s1 : Looks (model prog w) h2 (isSubtype (.ref C) (.ref C)) true := looks_subIn X2 Y.self
  have i1 : Looks (model prog w) h2 (typeLookup (.ref C) "__init__") (some (.ref fI)) := looks_findIn X2 hi
  have b1 : Looks (model prog w) h2 (bindSpecial (.ref fI) (.ref (h.objs.size + 1))) (.ref fI, [.ref (h.objs.size + 1)]) := bind_fn X2 _ hf
  show wpAny _ _ _ _ _ _
  unfold isInstance callSpecial? specialOf
  repeat (first | with_reducible refine wpAny_call ?_ | lk)
  refine codeAny_mono hgo fun r s' z => ?_
  rcases r with e | (v | _ | _ | _) <;> first | exact z | exact z.elim | skip
  obtain ⟨rfl, z⟩ := z
  exact wpAny_pure (wpAny_pure z)
end
end Mine
end
section
open PySem PySem.W PyProof.Rows PySem.Calls Builtin Builtin.ObjectAttr Builtin.Getset_descriptor
set_option maxRecDepth 100000
namespace Mine

structure ExcSt (B : Heap) (l : List Env) (e : Addr) (cls : Value) (d : Option Addr) (fl : Value) (h : Heap) : Prop where
  stays : B.StaysIn h
  fresh : B.get? e = none
  frames : h.FunFrames B l
  there : ∃ oe vs T oT ts, h.get? e = some oe ∧ oe.cls = cls ∧ oe.dict = d ∧ oe.data = .fields vs ∧ vs[1]? = some (.ref T) ∧ B.get? T = none ∧ T ≠ e ∧ h.get? T = some oT ∧ oT.data = .fields ts ∧ ts[3]? = some fl

theorem mapFields_dict (f : Array Value → Array Value) (o : Obj) : (Obj.mapFields f o).dict = o.dict := by
  obtain ⟨_, _, dt, _⟩ := o
  cases dt <;> rfl

section
variable {M : Model} {A : Around} {E : Value → Shared → Prop} {s : Shared} {B : Heap} {env : Env} {outer : List Env} {L e : Addr} {cls : Value} {d : Option Addr} {fl : Value} {Q : Unit → Shared → Prop}

theorem entry_exc {oe : Obj} {vs : Array Value} {head : Value} {hadNext : Bool} (hfr : A.frames = some (env :: outer)) (hl : s.heap.FunFrames B (env :: outer)) (hf : env.frame = some L)
    (he : s.heap.get? e = some oe) (hB : B.StaysIn s.heap) (hen : B.get? e = none) (hd : oe.data = .fields vs) (hsz : 1 < vs.size)
    (h : ∀ h', ExcSt B (env :: outer) e oe.cls oe.dict (rawInt L) h' → s.heap.UpToSlots h' → Q () { s with heap := h' }) :
    wpAny M A (do let a ← frameOf env; let pl ← entryPlaceOf L hadNext; let b ← EntryCells.newEntry head a .none (rawInt L) .none pl; setField (.ref e) 1 b) Q E s := by
  refine wpAny_bind (wpAny_frameOf_fun hfr hl hf fun h₁ hs => ?_)
  refine wpAny_bind (wpAny_entryPlaceOf fun pl hpl => ?_)
  unfold EntryCells.newEntry newFields
  have hts : ([head, Value.ref L, Value.none, rawInt L, Value.none] ++ (if pl.isEmpty then List.replicate 6 Value.none else pl)).toArray[3]? = some (rawInt L) := by simp
  refine wpAny_bind (wpAny_newObj_type ?_ (hpl.sizeOk5 _ _ _ _ _))
  generalize ([head, Value.ref L, Value.none, rawInt L, Value.none] ++ (if pl.isEmpty then List.replicate 6 Value.none else pl)).toArray = ts at hts ⊢
  have off : e ∉ (env :: outer).filterMap (·.frame) := fun hm => by
    obtain ⟨_, o, ho, hn⟩ := hl.mem hm
    rw [he] at ho
    cases ho
    exact hn vs hd
  have he₁ : h₁.get? e = some oe := (hs.2.1 e off).trans he
  have hTe : h₁.objs.size ≠ e := Nat.ne_of_gt (Heap.lt_size he₁)
  have up : ∀ b o, b ≠ e → h₁.get? b = some o → ((h₁.push { cls := .type "traceback", data := .fields ts }).update e (Obj.mapFields (·.setIfInBounds 1 (Value.ref h₁.objs.size)))).get? b = some o := fun b o hb q => by
    rw [Heap.get?_update_other _ _ (Ne.symm hb)]
    exact Heap.get?_push_of_some _ q
  have ne_of : ∀ b o, s.heap.get? b = some o → (∀ ws, o.data ≠ .fields ws) → b ≠ e := fun b o hb hn q => by
    rw [q, he] at hb
    cases hb
    exact hn vs hd
  have hB₁ : B.StaysIn h₁ := fun b o q => (hs.2.1 b fun hm => by rw [(hl.mem hm).1] at q; cases q).trans (hB b o q)
  refine wpAny_setField (Heap.get?_push_of_some _ he₁) hd hsz (h _ ⟨fun b o q => up b o (fun z => by rw [z, hen] at q; cases q) (hB₁ b o q), hen, hl.of_keeps fun b o hb hn => ?_, ?_⟩ fun b o hb hn => ?_)
  · obtain ⟨sl, q⟩ := hs.2.2 b o hb
    exact ⟨_, up b _ (ne_of b o hb hn) q, rfl⟩
  · refine ⟨_, _, h₁.objs.size, _, ts, Heap.get?_update_self _ (Heap.get?_push_of_some _ he₁) (Obj.isFreed_of_fields (Obj.data_mapFields hd _)), Obj.cls_mapFields _ _, mapFields_dict _ _, Obj.data_mapFields hd _, by simp [hsz], hB₁.fresh, hTe, (Heap.get?_update_other _ _ (Ne.symm hTe)).trans (Heap.get?_push_size _ rfl), rfl, hts⟩
  · obtain ⟨sl, q⟩ := hs.2.2 b o hb
    exact ⟨sl, up b _ (ne_of b o hb hn) q⟩

theorem note_first {oe : Obj} {vs : Array Value} (hfr : A.frames = some (env :: outer)) (hl : s.heap.FunFrames B (env :: outer)) (hf : env.frame = some L)
    (he : s.heap.get? e = some oe) (hB : B.StaysIn s.heap) (hen : B.get? e = none) (hd : oe.data = .fields vs) (h1 : vs[1]? = some .none)
    (h : ∀ h', ExcSt B (env :: outer) e oe.cls oe.dict (rawInt L) h' → s.heap.UpToSlots h' → Q () { s with heap := h' }) : wpAny M A (noteFrame (.ref e) env) Q E s := by
  unfold noteFrame
  simp only [hf]
  refine wpAny_bind (wpAny_field he hd h1 ?_)
  rw [if_neg (by decide)]
  exact entry_exc hfr hl hf he hB hen hd (Array.getElem?_eq_some_iff.mp h1).1 h

theorem flight_off {l : List Env} (x : ExcSt B l e cls d fl s.heap) (h : ∀ h', ExcSt B l e cls d .none h' → s.heap.UpToSlots h' → Q () { s with heap := h' }) : wpAny M A (setFlight (.ref e) none) Q E s := by
  obtain ⟨hB, hen, hl, oe, vs, T, oT, ts, he, hc, hdi, hd, h1, hnT, hTe, hT, hdT, h3⟩ := x
  have ne_of : ∀ b o, s.heap.get? b = some o → (∀ ws, o.data ≠ .fields ws) → T ≠ b := fun b o hb hn q => by
    rw [← q, hT] at hb
    cases hb
    exact hn ts hdT
  unfold setFlight
  refine wpAny_bind (wpAny_field he hd h1 ?_)
  rw [if_pos (show (Value.ref T != Value.none) = true from by simp)]
  have h3s := (Array.getElem?_eq_some_iff.mp h3).1
  refine wpAny_setField hT hdT h3s (h _ ⟨fun b o q => (Heap.get?_update_other _ _ (fun z => by rw [← z, hnT] at q; cases q)).trans (hB b o q), hen,
    hl.of_keeps fun b o hb hn => ⟨o, (Heap.get?_update_other _ _ (ne_of b o hb hn)).trans hb, rfl⟩,
    ⟨oe, vs, T, _, _, (Heap.get?_update_other _ _ hTe).trans he, hc, hdi, hd, h1, hnT, hTe, Heap.get?_update_self _ hT (Obj.isFreed_of_fields (Obj.data_mapFields hdT _)), Obj.data_mapFields hdT _, by simp [h3s]⟩⟩
    fun b o hb hn => ⟨o.slots, (Heap.get?_update_other _ _ (ne_of b o hb hn)).trans hb⟩)

theorem note_next (hfr : A.frames = some (env :: outer)) (hf : env.frame = some L) (x : ExcSt B (env :: outer) e cls d .none s.heap)
    (h : ∀ h', ExcSt B (env :: outer) e cls d (rawInt L) h' → s.heap.UpToSlots h' → Q () { s with heap := h' }) : wpAny M A (noteFrame (.ref e) env) Q E s := by
  obtain ⟨hB, hen, hl, oe, vs, T, oT, ts, he, hc, hdi, hd, h1, hnT, hTe, hT, hdT, h3⟩ := x
  subst hc hdi
  have ne_of : ∀ b o, s.heap.get? b = some o → (∀ ws, o.data ≠ .fields ws) → T ≠ b := fun b o hb hn q => by
    rw [← q, hT] at hb
    cases hb
    exact hn ts hdT
  unfold noteFrame
  simp only [hf]
  refine wpAny_bind (wpAny_field he hd h1 ?_)
  rw [if_pos (show (Value.ref T != Value.none) = true from by simp)]
  refine wpAny_bind (wpAny_field hT hdT h3 ?_)
  rw [if_neg (show ¬ ((Value.none == rawInt L) = true) from by simp [rawInt])]
  refine wpAny_bind (wpAny_setField hT hdT (Array.getElem?_eq_some_iff.mp h3).1 ?_)
  have sm : s.heap.UpToSlots (s.heap.update T (Obj.mapFields (·.setIfInBounds 3 Value.none))) := fun b o hb hn => ⟨o.slots, (Heap.get?_update_other _ _ (ne_of b o hb hn)).trans hb⟩
  refine entry_exc hfr (hl.of_keeps fun b o hb hn => ⟨o, (Heap.get?_update_other _ _ (ne_of b o hb hn)).trans hb, rfl⟩) hf ((Heap.get?_update_other _ _ hTe).trans he)
    (fun b o q => (Heap.get?_update_other _ _ (fun z => by rw [← z, hnT] at q; cases q)).trans (hB b o q)) hen hd (Array.getElem?_eq_some_iff.mp h1).1 fun h' y u => h h' y (sm.trans u)
end

def Flown (base G : Heap) (l : List Env) (e : Addr) (cls : Value) (d : Option Addr) (news : Led) (h : Heap) : Prop :=
  ∃ B, base.StaysIn B ∧ (∀ b o, G.get? b = some o → b ∉ l.filterMap (·.frame) → B.get? b = some o) ∧ (∀ q ∈ news, B.get? q.1 = some q.2 ∧ G.get? q.1 = none ∧ base.get? q.1 = none) ∧ ExcSt B l e cls d .none h

theorem Flown.sub {base G h : Heap} {l : List Env} {e : Addr} {cls : Value} {d : Option Addr} {a b : Led} (x : Flown base G l e cls d b h) (hs : ∀ p ∈ a, p ∈ b) : Flown base G l e cls d a h :=
  let ⟨B, x1, x2, x3, x4⟩ := x; ⟨B, x1, x2, fun q hq => x3 q (hs q hq), x4⟩
theorem Flown.tl {base G h : Heap} {l : List Env} {e : Addr} {cls : Value} {d : Option Addr} {p : Addr × Obj} {a b : Led} (x : Flown base G l e cls d (p :: b) h) (hs : ∀ p ∈ a, p ∈ b) : Flown base G l e cls d (p :: a) h :=
  x.sub fun q hq => by
    rcases List.mem_cons.mp hq with rfl | hq
    · exact .head _
    · exact .tail _ (hs q hq)

section
variable {M : Model} {A : Around} {E : Value → Shared → Prop} {s : Shared} {base g g₂ : Heap} {outer : List Env} {L a e : Addr} {m : Str → Option Value} {name : Str} {scope : Scope} {cd cls : Value} {d : Option Addr} {Q : Unit → Shared → Prop} {news : Led}
theorem ExcSt.pop {B h : Heap} {env : Env} {l : List Env} {fl : Value} (x : ExcSt B (env :: l) e cls d fl h) : ExcSt B l e cls d fl h := ⟨x.stays, x.fresh, x.frames.2.2, x.there⟩

theorem leave_made {C : Addr} {vs : Array Value} (K : Below A base outer g) (F : Fr g L s.heap m) (N : News g L s.heap ((e, excO C d vs) :: news)) (hne : ∀ p ∈ news, p.1 ≠ e) (h1 : vs[1]? = some .none)
    (hQ : ∀ h', Flown base g outer e (.ref C) d news h' → g.UpToSlots h' → Q () { s with heap := h' }) (hk : scope.kind = .function := by rfl) :
    wpAny M (A.deeper (envOf name scope L a cd)) (leaving (envOf name scope L a cd) (.ref e)) Q E s := by
  have K' := K.push (name := name) (a := a) (cd := cd) F hk
  have hin : ∀ env ∈ (envOf name scope L a cd :: outer), ∀ b, env.frame = some b → b ∈ e :: (envOf name scope L a cd :: outer).filterMap (·.frame) := fun env he b hb => .tail _ (List.mem_filterMap.mpr ⟨env, he, hb⟩)
  have he := N _ (.head _)
  have fr_of : ∀ b, b ∈ (envOf name scope L a cd :: outer).filterMap (·.frame) → b = L ∨ ∃ o, g.get? b = some o := fun b hm => by
    rcases kts_mem hm with z | z
    · exact .inl z
    · obtain ⟨_, o, ho, _⟩ := K.frames.mem z
      exact .inr ⟨o, ho⟩
  have st : base.StaysIn (hideAll s.heap (e :: (envOf name scope L a cd :: outer).filterMap (·.frame))) := fun b o q => hideAll_get _ (K'.stays b o q) fun hm => by
    rcases List.mem_cons.mp hm with rfl | hm
    · have := he.2.2
      rw [K.stays _ _ q] at this
      cases this
    · rw [(K'.frames.mem hm).1] at q
      cases q
  have sg : ∀ b o, g.get? b = some o → b ∉ outer.filterMap (·.frame) → (hideAll s.heap (e :: (envOf name scope L a cd :: outer).filterMap (·.frame))).get? b = some o := fun b o q nm => hideAll_get _ (F.keep b o q) fun hm => by
    rcases List.mem_cons.mp hm with rfl | hm
    · have := he.2.2
      rw [q] at this
      cases this
    · rcases kts_mem hm with z | z
      · rw [z, kts_self F] at q
        cases q
      · exact nm z
  have hl : ∀ q ∈ news, (hideAll s.heap (e :: (envOf name scope L a cd :: outer).filterMap (·.frame))).get? q.1 = some q.2 ∧ g.get? q.1 = none ∧ base.get? q.1 = none := fun q hq => by
    have hq' := N q (.tail _ hq)
    refine ⟨hideAll_get _ hq'.1 fun hm => ?_, hq'.2.2, fresh_of_stays K.stays hq'.2.2⟩
    rcases List.mem_cons.mp hm with z | hm
    · exact hne q hq z
    · rcases fr_of _ hm with z | ⟨o, z⟩
      · exact hq'.2.1 z
      · rw [hq'.2.2] at z
        cases z
  unfold leaving
  refine wpAny_bind (note_first (B := hideAll s.heap (e :: (envOf name scope L a cd :: outer).filterMap (·.frame))) K'.stack (funFrames_hide K'.frames hin) rfl he.1 (fun b o q => of_hideAll _ q) (hideAll_none _ (.head _)) rfl h1 fun h₁ x₁ u₁ => ?_)
  refine flight_off (s := { s with heap := h₁ }) x₁ fun h₂ x₂ u₂ => ?_
  exact hQ h₂ ⟨_, st, sg, hl, x₂.pop⟩ (((Heap.UpToSlots.of_keeps F.keep).trans u₁).trans u₂)

theorem leave_flown (K : Below A base outer g) (F : Fr g L g₂ m) (x : Flown base g₂ (envOf name scope L a cd :: outer) e cls d news s.heap) (hsm : g₂.UpToSlots s.heap)
    (hQ : ∀ h', Flown base g outer e cls d news h' → g.UpToSlots h' → Q () { s with heap := h' }) :
    wpAny M (A.deeper (envOf name scope L a cd)) (leaving (envOf name scope L a cd) (.ref e)) Q E s := by
  obtain ⟨B, hB, hBG, hl, hx⟩ := x
  unfold leaving
  refine wpAny_bind (note_next (Around.frames_deeper K.stack) rfl hx fun h₁ x₁ u₁ => ?_)
  refine flight_off (s := { s with heap := h₁ }) x₁ fun h₂ x₂ u₂ => ?_
  refine hQ h₂ ⟨B, hB, fun b o q nm => hBG b o (F.keep b o q) (fun hm => ?_), fun q hq => ⟨(hl q hq).1, kts_none F.keep (hl q hq).2.1, (hl q hq).2.2⟩, x₂.pop⟩ ((Heap.UpToSlots.of_keeps F.keep).trans ((hsm.trans u₁).trans u₂))
  rcases kts_mem hm with z | z
  · rw [z, kts_self F] at q
    cases q
  · exact nm z
end

section
variable {prog : Program} {w : World} {A : Around} {E : Value → Shared → Prop} {s : Shared} {K : Frag}
def Thrown (K : Frag) (E : Value → Shared → Prop) (v : Value) (s₁ : Shared) : Prop :=
  ∃ e C d vs oc od sl cdt, v = .ref e ∧ s₁.heap.get? e = some (excO C d vs) ∧ vs[1]? = some .none ∧ K.In s₁.heap ∧ K.lookup C = some ⟨oc, od, .cls cdt, sl⟩ ∧ oc = .type "type" ∧ subIn K (.ref C) (.type "BaseException") = some true ∧ E (.ref e) s₁
theorem raise_exc {x : PySem.Expr} {env : Env} {pos : Pos} {Q : Flow → Shared → Prop} (hh : A.handled = none)
    (h : wpAny (model prog w) A (eval x env) (fun v s₁ => Thrown K E v s₁) E s) :
    wpAny (model prog w) A (exec (.Raise (some x) none pos) env) Q E s := by
  rw [arm_exec_Raise]
  refine wpAny_bind (wpAny_standAt ?_)
  unfold raiseStmt
  simp only [evalOpt, Option.map]
  refine wpAny_bind (wpAny_bind (wpAny_mono h (fun v s₁ h₁ => ?_) fun _ _ z => z))
  obtain ⟨e, C, d, vs, oc, od, sl, cdt, rfl, he, h1, X, ho, rfl, hsub, hE⟩ := h₁
  refine wpAny_bind (wpAny_standAt (wpAny_pure ?_))
  obtain ⟨hp, gg, dd, tt, oo⟩ := s₁
  have hC := X _ _ ho
  have isT : Looks (model prog w) hp (isType (.ref e)) false := (Looks.ld (part := some headPart) he).andThen .now
  have typ : Looks (model prog w) hp (typeOf (.ref e)) (.ref C) := (Looks.ld (part := none) he).andThen .now
  have typ2 : Looks (model prog w) hp (typeOf (.ref C)) (.type "type") := (Looks.ld (part := none) hC).andThen .now
  have inst : Looks (model prog w) hp (isInstance (.ref e) (.type "BaseException")) true := typ.andThen (looks_subIn X hsub)
  refine wpAny_bind (wpAny_pure (wpAny_bind (wpAny_holding ?_)))
  unfold excFromValue isExcClass
  refine wpAny_bind (wpAny_bind (isT.at ?_))
  rw [if_neg Bool.false_ne_true]
  refine wpAny_pure ?_
  rw [if_neg Bool.false_ne_true]
  refine wpAny_bind (inst.at ?_)
  rw [if_pos rfl]
  refine wpAny_pure ?_
  dsimp only
  refine wpAny_bind (isT.at ?_)
  rw [if_neg Bool.false_ne_true]
  unfold raisedInstance
  refine wpAny_bind (wpAny_bind (typ.at (wpAny_bind (typ2.at ?_))))
  rw [if_pos (by decide)]
  refine wpAny_pure ?_
  unfold setFlight
  refine wpAny_bind (wpAny_bind (wpAny_field he rfl h1 ?_))
  rw [if_neg (by decide)]
  refine wpAny_pure ?_
  exact wpAny_raiseNew_none hh hE
end
end Mine
end
section
open PySem PySem.W PyProof.Rows PySem.Calls
set_option maxRecDepth 100000
namespace Mine

abbrev Calls (w : World) (loose : List Str) (mean : ExcName → Option Value) (mg mb : Str → Option Value) (d : Nat) (f : Addr) (vs : List Value) (led : Led)
    (Post : Heap → Addr → (Str → Option Value) → Shared → (Value → Shared → Prop) → Prop) : Prop :=
  ∀ (dp un : Nat) (gd : Option (List Code)) (cn : Str) (cs : Scope) (a : Addr) (ccd : Value) (cl : List (Str × Addr)) (outer : List Env) (A₀ : Around) (base h₀ : Heap) (L : Addr) (m : Str → Option Value) (s : Shared) (Q E : Value → Shared → Prop),
    Below A₀ base outer h₀ → Fr h₀ L s.heap m → (Mine.hd.heap_39 w.params).In h₀ → News h₀ L s.heap led → Top Mine.view loose mean mg mb h₀ → cs.kind = .function → dp + d < recursionLimit → un + 100 * d < cLine →
    Post h₀ L m s Q → wpAny (model PySem.Challenge.rw_pb0005_01.row.prog w) (ktrTop dp un gd cn cs L a ccd cl outer) (call (.ref f) vs) Q E s

def WordIs (es : List DictEntry) (wd : Str) : Prop := ∃ t, getL (Str.ofString "word") es = some (some (.str wd t))
abbrev CallsE (w : World) (loose : List Str) (mean : ExcName → Option Value) (mg mb : Str → Option Value) (d : Nat) (f : Addr) (vs : List Value) (led ledE : Led)
    (Post : Heap → Addr → (Str → Option Value) → Shared → (Value → Shared → Prop) → Prop) (words : Str → Prop) : Prop :=
  ∀ (dp un : Nat) (gd : Option (List Code)) (cn : Str) (cs : Scope) (a : Addr) (ccd : Value) (cl : List (Str × Addr)) (outer : List Env) (A₀ : Around) (base h₀ : Heap) (L : Addr) (m : Str → Option Value) (s : Shared) (Q E : Value → Shared → Prop),
    Below A₀ base outer h₀ → Fr h₀ L s.heap m → (Mine.hd.heap_39 w.params).In h₀ → News h₀ L s.heap led → Top Mine.view loose mean mg mb h₀ → cs.kind = .function → dp + d < recursionLimit → un + 100 * d < cLine →
    Post h₀ L m s Q →
    (∀ g e dx h' tk' wd es n, Fr h₀ L g m → g.UpToSlots h' → Flown base g (envX cn cs L a ccd cl :: outer) e (.ref 51) (some dx) ((dx, dictOf es n) :: ledE) h' → words wd → WordIs es wd → E (.ref e) { s with heap := h', toks := tk' }) →
    wpAny (model PySem.Challenge.rw_pb0005_01.row.prog w) (ktrTop dp un gd cn cs L a ccd cl outer) (call (.ref f) vs) Q E s

abbrev sackO (bk : Addr) (spot : Int) (t : Tok) (n : Nat) : Obj := listOf (List.toArray [.ref bk, .int spot t]) n

end Mine
end
section
open PySem PySem.W PyProof.Rows PySem.Calls Builtin Builtin.ObjectAttr Builtin.Getset_descriptor
set_option maxRecDepth 100000
namespace Mine
section
variable {prog : Program} {w : World} {A₀ : Around} {E : Value → Shared → Prop} {s : Shared} {base g g₀ G : Heap} {outer : List Env} {L a e C : Addr} {d : Option Addr} {m : Str → Option Value} {name : Str} {scope : Scope} {cd : Value}
  {n : Str} {b₀ : Stmt} {suite : List Stmt} {pos np : Pos} {rest : List ExceptHandler} {Q : Flow → Shared → Prop} {news : Led} {KF : Frag}
  {p : Program} {loose : List Str} {mean : ExcName → Option Value} {mg mb : Str → Option Value} {x : Str}

theorem caught_exc (R : Flown base G (envOf name scope L a cd :: outer) e (.ref C) d news s.heap) (F : Fr g L G m) (K : Below A₀ base outer g) (hsm : G.UpToSlots s.heap) (XB : KF.In base) (TB : Top p loose mean mg mb base)
    (D : KtsDicts (outer.filterMap (·.frame)) g) (T0 : KtsTurn (outer.filterMap (·.frame)) g₀ g)
    (ex : nsIn KF mainGlobals x = some (some (.ref C))) (q : ktsIn KF C "BaseException" = true)
    (k : ∀ h' g' oe ws tk, KtsTurn (outer.filterMap (·.frame)) g₀ g' → Fr g' L h' (fun y => if y = n then some (.ref e) else m y) → News g' L h' ((e, oe) :: news) → oe.cls = .ref C → oe.dict = d → oe.data = .fields ws → Below A₀ base outer g' → KF.In g' → Top p loose mean mg mb g' → KtsDicts (outer.filterMap (·.frame)) g' →
      wpAny (model prog w) ((A₀.deeper (envOf name scope L a cd)).mark (some (.ref e))) (execs (b₀ :: suite) (envOf name scope L a cd))
        (fun f s₄ => wpAny (model prog w) (A₀.deeper (envOf name scope L a cd)) (do bindName (envOf name scope L a cd) n .none; unbindBehindTheSuite (envOf name scope L a cd) n pos) (fun _ s₅ => Q f s₅) E s₄)
        (AsSuiteRaised (model prog w) ((A₀.deeper (envOf name scope L a cd)).mark (some (.ref e))) (envOf name scope L a cd) n pos (notedBy (model prog w) ((A₀.deeper (envOf name scope L a cd)).mark (some (.ref e))) (envOf name scope L a cd) (cameBackBy (model prog w) (A₀.deeper (envOf name scope L a cd)) (envOf name scope L a cd) E)))
        { s with heap := h', toks := tk })
    (hk : scope.kind = .function := by rfl) (hlo : (envOf name scope L a cd).kindOf n = some .local := by rfl) (hx : (envOf name scope L a cd).kindOf x = some .globalImplicit := by rfl) (hd : (x == ("__debug__" : Str)) = false := by decide) :
    wpAny (model prog w) (A₀.deeper (envOf name scope L a cd)) (noteFrame (.ref e) (envOf name scope L a cd))
      (fun _ s₂ => wpAny (model prog w) (A₀.deeper (envOf name scope L a cd)) (setFlight (.ref e) none) (fun _ s₃ =>
        wpAny (model prog w) (A₀.deeper (envOf name scope L a cd)) (handleBy (.ref e) (envOf name scope L a cd) (.ExceptHandler (some (.Name x np)) (some n) (b₀ :: suite) pos :: rest)) Q E s₃) E s₂) E s := by
  obtain ⟨B, hB, hBG, hl, hfl⟩ := R
  have hL : B.get? L = none := by
    obtain ⟨_, ⟨L', _, hf, hn', _⟩, _⟩ := hfl.frames
    cases (show some L = some L' from hf)
    exact hn'
  refine note_next (Around.frames_deeper K.stack) rfl hfl fun h₁ x₁ u₁ => ?_
  refine flight_off (s := { s with heap := h₁ }) x₁ fun h₂ x₂ u₂ => ?_
  have up₂ := (hsm.trans u₁).trans u₂
  obtain ⟨g₂, T₂, F₂, K₂⟩ := kts_ground K F hBG x₂.stays up₂
  have X₂ : KF.In g₂ := XB.keeps K₂.stays
  have P₂ : TopRead p loose mg mb g₂ := topRead_of (TB.keeps K₂.stays)
  obtain ⟨ob, _, _, _, _, hob, hobc, _⟩ := x₂.there
  obtain ⟨nm, q', N, bs, bm, hdct, sn, sub, ab, col, dd, k0, k1, k2, k3, k5, newId, hC, hbase, _⟩ := kts_cls X₂ q
  refine wpAny_handleBy_cons (codeAny_handlers_test (name_K F₂ X₂ P₂ ex ?_ hk hx hd)) (by intro q; cases q)
  refine wpAny_excMatches_sub_self (F₂.keep _ _ hC) hob hobc hbase (codeAny_handlers_suite_as ?_)
  refine flight_off (s := { s with heap := h₂ }) x₂ fun h₃ x₃ u₃ => ?_
  have up₃ := up₂.trans u₃
  obtain ⟨g₃, T₃, F₃, K₃⟩ := kts_ground K F hBG x₃.stays up₃
  obtain ⟨oe, ws, _, _, _, hoe, hoc, hod, hof, _⟩ := x₃.there
  have ne₃ : g₃.get? e = none := T₃.none_ _ (kts_fresh F hBG hfl.fresh fun o ho hm => by
    obtain ⟨_, o', ho', hn⟩ := K.frames.mem hm
    rw [ho] at ho'
    cases ho'
    obtain ⟨sl, hs⟩ := up₃ _ _ (F.keep _ _ ho) hn
    rw [hoe] at hs
    cases hs
    exact hn _ hof)
  have Ne := News.more F₃ News.nil hoe (fun es n q => by rw [hof] at q; cases q) ne₃
  have Nl : News g₃ L h₃ news := fun q hq => ⟨x₃.stays _ _ (hl q hq).1, (fun z => by have := (hl q hq).1; rw [z, hL] at this; cases this), T₃.none_ _ (kts_none F.keep (hl q hq).2.1)⟩
  refine stN F₃ (news := (e, oe) :: news) (fun q hq => by
    rcases List.mem_cons.mp hq with rfl | hq
    · exact Ne _ (.head _)
    · exact Nl q hq) (fun h₄ F₄ N₄ => ?_) hk hlo
  exact k h₄ g₃ oe ws _ (T0.trans T₃) F₄ N₄ hoc hod hof K₃ (XB.keeps K₃.stays) (TB.keeps K₃.stays) (D.turn T₃)
end

section
variable {prog : Program} {w : World} {A : Around} {E : Value → Shared → Prop} {s : Shared} {K : Frag} {C x : Addr} {ox : Obj} {od : Option Obj} {name : Str} {expr : Bool}
theorem get_exc {v : Value} {Q : Value → Shared → Prop} (X : K.In s.heap) (I : InstAt s.heap x ox C od) (hga : findIn K (.ref C) "__getattribute__" = some (some (.builtin "BaseException.__getattribute__")))
    (hgt : findIn K (.ref C) "__getattr__" = some none) (hb : subIn K (.ref C) (.type "BaseException") = some true) (hf : findObj K C od name = some (.value v)) (hh : handedIn v = true) (h : Q v { s with toks := s.toks + 1 }) :
    wpAny (model prog w) A (getAttr (.ref x) name expr) Q E s := by
  obtain ⟨hp, g, d, t, os⟩ := s
  have L0 := I.type (M := model prog w)
  have L1 := looks_findIn (M := model prog w) X hga
  have L2 := looks_findIn (M := model prog w) X hgt
  have L3 := looks_find (M := model prog w) X I hf
  have sub : Looks (model prog w) hp (isInstance (.ref x) (.type "BaseException")) true := L0.andThen (looks_subIn X hb)
  have hx0 : (expr && onTheHeap (Value.builtin "BaseException.__getattribute__")) = false := by cases expr <;> rfl
  have hx1 : (onTheHeap (Value.ref C) && Value.builtin "BaseException.__getattribute__" == Value.builtin "object.__getattribute__") = false := by
    rw [show (Value.builtin "BaseException.__getattribute__" == Value.builtin "object.__getattribute__") = false by decide +kernel]
    rfl
  unfold getAttr getAttrBy
  refine wpAny_bind (wpAny_mkText (wpAny_holding (wpAny_bind (L0.at (wpAny_bind (L1.at ?_))))))
  dsimp only
  rw [hx1, if_neg Bool.false_ne_true]
  unfold getAttrByItsOwn
  refine wpAny_bind ?_
  show wpAny _ _ (typeLookup (.ref C) "__getattr__") _ _ _
  refine L2.at ?_
  unfold callGetattribute
  rw [hx0, if_neg Bool.false_ne_true]
  have FB := PySem.F.attr_Exception
  refine wpAny_bind (wpAny_attempt (wpAny_holding ?_))
  unfold boundAndCalled
  rw [FB.ga.bind]
  refine wpAny_bind (wpAny_pure ?_)
  dsimp only
  refine wpAny_call (codeAny_call_builtin FB.ga.plain PySem.F.entry_bexc_ga (@check_slot (model prog w) _ _ ⟨hp, g, d, t + 1, os⟩ "BaseException.__getattribute__" "BaseException" "__getattribute__" (.ref x) [.str name t] [] _ (by decide +kernel) (by decide +kernel) sub (PySem.F.args_bexc_ga (.ref x) (.str name t)) ?_))
  unfold Builtin.«object.__getattribute__»
  refine wpAny_bind ?_
  unfold slotArgs
  refine wpAny_pure ?_
  dsimp only
  refine wpAny_bind (wpAny_pure (wpAny_bind (L0.at (wpAny_bind (L3.at ?_)))))
  refine wpAny_pure ?_
  show wpAny _ _ (handedOut v) _ _ _
  rw [handedOut_of hh]
  exact wpAny_pure h
end
end Mine
end
section
open PySem PySem.W PyProof.Rows PySem.Calls PySem.SeqAt
set_option maxRecDepth 100000
namespace Mine
def optFold {α β : Type} (f : β → α → Option β) : β → List α → Option β
  | b, [] => some b
  | b, a :: l => (f b a).bind fun b' => optFold f b' l
theorem optFold_app {α β : Type} {f : β → α → Option β} : ∀ {l r : List α} {b : β}, optFold f b (l ++ r) = (optFold f b l).bind fun b' => optFold f b' r
  | [], _, _ => rfl
  | a :: l, r, b => by
    show (f b a).bind _ = ((f b a).bind _).bind _
    cases f b a with
    | none => rfl
    | some b' => exact optFold_app (l := l)
theorem optFold_succ {α β : Type} {f : β → α → Option β} {l : List α} {i : Nat} {a : α} {b : β} (h : l[i]? = some a) : optFold f b (l.take (i + 1)) = (optFold f b (l.take i)).bind fun b' => f b' a := by
  rw [List.take_succ, h, optFold_app]
  congr 1
  funext b'
  show (f b' a).bind _ = _
  cases f b' a <;> rfl
theorem optFold_none {α β : Type} {f : β → α → Option β} {l : List α} (i : Nat) {b : β} (h : optFold f b (l.take i) = none) : optFold f b l = none := by
  rw [← List.take_append_drop i l, optFold_app, h]
  rfl

def claim1 (lo hi place : Int) (fs : List Int) (idx : Int) : Option (List Int) :=
  match fs[(idx - lo).toNat]? with
  | some x => if lo ≤ idx ∧ idx ≤ hi ∧ x < 0 then some (fs.set (idx - lo).toNat place) else none
  | none => none
def rng (l h : Int) : List Int := (List.range (h + 1 - l).toNat).map fun (k : Nat) => l + (k : Int)
def claimC (lo hi place : Int) (fs : List Int) (c : Int × Int) : Option (List Int) :=
  if c.1 ≤ c.2 ∧ (c.1 < lo ∨ hi < c.2) then none else optFold (claim1 lo hi place) fs (rng c.1 c.2)
def claimCs (lo hi place : Int) (fs : List Int) (cs : List (Int × Int)) : Option (List Int) := optFold (claimC lo hi place) fs cs
theorem claim1_some {lo hi place idx x : Int} {fs : List Int} (h0 : lo ≤ idx) (h1 : idx ≤ hi) (hx : fs[(idx - lo).toNat]? = some x) (h2 : x < 0) : claim1 lo hi place fs idx = some (fs.set (idx - lo).toNat place) := by
  unfold claim1
  rw [hx]
  exact if_pos ⟨h0, h1, h2⟩
theorem claim1_none {lo hi place idx : Int} {fs : List Int} (h : ¬ (lo ≤ idx ∧ idx ≤ hi ∧ ∃ x, fs[(idx - lo).toNat]? = some x ∧ x < 0)) : claim1 lo hi place fs idx = none := by
  unfold claim1
  cases hx : fs[(idx - lo).toNat]? with
  | none => rfl
  | some x => exact if_neg fun z => h ⟨z.1, z.2.1, x, hx, z.2.2⟩
theorem claim1_inv {lo hi place idx : Int} {fs fs' : List Int} (h : claim1 lo hi place fs idx = some fs') : lo ≤ idx ∧ idx ≤ hi ∧ (∃ x, fs[(idx - lo).toNat]? = some x ∧ x < 0) ∧ fs' = fs.set (idx - lo).toNat place := by
  unfold claim1 at h
  cases hx : fs[(idx - lo).toNat]? with
  | none => rw [hx] at h; cases h
  | some x =>
    rw [hx] at h
    dsimp only at h
    split at h
    · rename_i c
      cases h
      exact ⟨c.1, c.2.1, ⟨x, rfl, c.2.2⟩, rfl⟩
    · cases h
theorem claim1_len {lo hi place idx : Int} {fs fs' : List Int} (h : claim1 lo hi place fs idx = some fs') : fs'.length = fs.length := by
  obtain ⟨_, _, _, rfl⟩ := claim1_inv h
  simp
theorem optFold_len {α : Type} {f : List Int → α → Option (List Int)} (hf : ∀ fs a fs', f fs a = some fs' → fs'.length = fs.length) : ∀ {l : List α} {fs fs' : List Int}, optFold f fs l = some fs' → fs'.length = fs.length
  | [], _, _, h => by cases h; rfl
  | a :: l, fs, fs', h => by
    cases h1 : f fs a with
    | none => rw [optFold, h1] at h; cases h
    | some fs1 =>
      rw [optFold, h1] at h
      exact (optFold_len hf (l := l) h).trans (hf _ _ _ h1)
theorem claimC_len {lo hi place : Int} {fs fs' : List Int} {c : Int × Int} (h : claimC lo hi place fs c = some fs') : fs'.length = fs.length := by
  unfold claimC at h
  split at h
  · cases h
  · exact optFold_len (fun _ _ _ h => claim1_len h) h
theorem rng_get {l h : Int} {k : Nat} (hk : k < (h + 1 - l).toNat) : (rng l h)[k]? = some (l + (k : Int)) := by
  unfold rng
  rw [List.getElem?_map, List.getElem?_range hk]
  rfl
theorem paired_set {F : Value → Int → Prop} {v : Value} {x : Int} (h : F v x) : ∀ {vs : List Value} {xs : List Int} (k : Nat), Paired F vs xs → Paired F (vs.set k v) (xs.set k x)
  | _, _, _, .nil => .nil
  | _, _, 0, .cons _ t => .cons h t
  | _, _, k + 1, .cons h' t => .cons h' (paired_set h k t)

def spStep (ps : List Pt) (lo hi : Int) (st : List Int × Int × Int) (k : Nat) : Option (List Int × Int × Int) :=
  match ps[k]? with
  | some .pos => (claim1 lo hi k st.1 st.2.1).map fun fs => (fs, st.2.1 + 1, st.2.2)
  | some .others => some (st.1, st.2.1, k)
  | some (.named cs) => (claimCs lo hi k st.1 cs).map fun fs => (fs, st.2.1, st.2.2)
  | none => some st
def dimL (lo hi : Int) : Int := if 0 > hi - lo + 1 then 0 else hi - lo + 1
def spread1 (ps : List Pt) (lo hi : Int) : Option (List Int × Int × Int) := optFold (spStep ps lo hi) (List.replicate (dimL lo hi).toNat (-1), lo, -1) (List.range ps.length)
def fillStep (rst : Int) (fs : List Int) (k : Nat) : Option (List Int) :=
  match fs[k]? with
  | some x => if x < 0 then (if rst < 0 then none else some (fs.set k rst)) else some fs
  | none => some fs
def spreadF (ps : List Pt) (lo hi : Int) : Option (List Int) := (spread1 ps lo hi).bind fun st => optFold (fillStep st.2.2) st.1 (List.range st.1.length)
theorem range_get {n i : Nat} (h : i < n) : (List.range n)[i]? = some i := List.getElem?_range h
theorem range_take (n i : Nat) (h : i ≤ n) : (List.range n).take i = List.range i := by
  rw [List.take_range, Nat.min_eq_left h]
theorem spStep_len {ps : List Pt} {lo hi : Int} {st st' : List Int × Int × Int} {k : Nat} (h : spStep ps lo hi st k = some st') : st'.1.length = st.1.length := by
  unfold spStep at h
  split at h
  · obtain ⟨fs, h1, rfl⟩ := Option.map_eq_some_iff.mp h
    exact claim1_len h1
  · cases h; rfl
  · obtain ⟨fs, h1, rfl⟩ := Option.map_eq_some_iff.mp h
    exact optFold_len (fun _ _ _ h => claimC_len h) h1
  · cases h; rfl
theorem spFold_len {ps : List Pt} {lo hi : Int} : ∀ {l : List Nat} {st st' : List Int × Int × Int}, optFold (spStep ps lo hi) st l = some st' → st'.1.length = st.1.length
  | [], _, _, h => by cases h; rfl
  | a :: l, st, st', h => by
    cases h1 : spStep ps lo hi st a with
    | none => rw [optFold, h1] at h; cases h
    | some st1 =>
      rw [optFold, h1] at h
      exact (spFold_len (l := l) h).trans (spStep_len h1)
theorem fillStep_len {rst : Int} {fs fs' : List Int} {k : Nat} (h : fillStep rst fs k = some fs') : fs'.length = fs.length := by
  unfold fillStep at h
  split at h
  · split at h
    · split at h
      · cases h
      · cases h; simp
    · cases h; rfl
  · cases h; rfl
end Mine
end
section
open PySem PySem.W PyProof.Rows PySem.Calls PySem.SeqAt
set_option maxRecDepth 100000
namespace Mine
section
variable {prog : Program} {w : World} {A : Around} {E : Value → Shared → Prop} {s : Shared} {h₀ : Heap} {L : Addr} {m : Str → Option Value} {news : Led}
def Pt.isNamed : Pt → Bool
  | .named _ => true
  | _ => false
theorem cho_notIn {v : Value} {p : Pt} {l : Addr} {k : Nat} {u : Tok} {Q : Value → Shared → Prop} (N : News h₀ L s.heap news) (hm : (l, tupOf #[.none, .str (Str.ofString "others") u] k) ∈ news) (hc : ChoIn news v p) (hu : A.in1.units < cLine) (h : Q (.bool p.isNamed) s) :
    wpAny (model prog w) A (compareOp .NotIn v (.ref l)) Q E s := by
  cases p with
  | pos =>
    obtain rfl : v = .none := hc
    replace h : Q (.bool false) s := h
    refine notIn_tupleAt (fun y => match y with | .none => true | _ => false) (isTuple_of N hm) (fun y hy => ?_) (by simpa using h)
    simp only [List.mem_toArray, List.mem_cons, List.not_mem_nil, or_false] at hy
    rcases hy with rfl | rfl
    · exact EqAt.same _
    · exact EqAt.str_none _ _
  | named cs =>
    obtain ⟨lc, n, vs, rfl, hmc, _⟩ := hc
    replace h : Q (.bool true) s := h
    refine notIn_tupleAt (fun _ => false) (isTuple_of N hm) (fun y hy => ?_) (by simpa using h)
    simp only [List.mem_toArray, List.mem_cons, List.not_mem_nil, or_false] at hy
    rcases hy with rfl | rfl
    · exact EqAt.none_list (isList_of N hmc) hu
    · exact EqAt.str_list _ _ (isList_of N hmc) hu
  | others =>
    obtain ⟨t, rfl⟩ := hc
    replace h : Q (.bool false) s := h
    refine notIn_tupleAt (fun y => match y with | .str _ _ => true | _ => false) (isTuple_of N hm) (fun y hy => ?_) (by simpa using h)
    simp only [List.mem_toArray, List.mem_cons, List.not_mem_nil, or_false] at hy
    rcases hy with rfl | rfl
    · exact EqAt.none_str _ _
    · have := EqAt.str_str (A := A.in1) (s := s) (Str.ofString "others") u (Str.ofString "others") t
      rw [beq_self_eq_true] at this
      exact this

inductive NamedIn (led : Led) (v : Value) (x : Int × List (Int × Int)) : Prop
  | mk (a : Addr) (k : Nat) (tn : Tok) (l : Addr) (nl : Nat) (vs : List Value) (e : v = .ref a) (h1 : (a, tupOf #[.int x.1 tn, .ref l] k) ∈ led) (h2 : (l, listOf vs.toArray nl) ∈ led) (h3 : Paired (ChIn led) vs x.2) : NamedIn led v x
theorem NamedIn.mono {led led' : Led} {v : Value} {x : Int × List (Int × Int)} (h : NamedIn led v x) (hs : ∀ p ∈ led, p ∈ led') : NamedIn led' v x :=
  h.casesOn fun a k tn l nl vs e h1 h2 h3 => ⟨a, k, tn, l, nl, vs, e, hs _ h1, hs _ h2, paired_mono (fun _ _ x => x.mono hs) h3⟩
def nameAt (ps : List Pt) (n : Nat) : Option (Int × List (Int × Int)) :=
  match ps[n]? with
  | some (.named cs) => some ((n : Int), cs)
  | _ => none
def namedI (ps : List Pt) : List (Int × List (Int × Int)) := (List.range ps.length).filterMap (nameAt ps)
theorem filterMap_succ {α : Type} {f : Nat → Option α} {i : Nat} : (List.range (i + 1)).filterMap f = (List.range i).filterMap f ++ (match f i with | some x => [x] | none => []) := by
  rw [List.range_succ, List.filterMap_append]
  cases h : f i <;> simp [h]
def badC (lo hi : Int) (c : Int × Int) : Bool := decide (c.1 ≤ c.2 ∧ (c.1 < lo ∨ c.2 > hi))
def badN (lo hi : Int) (x : Int × List (Int × Int)) : Bool := x.2.any (badC lo hi)
theorem any_take_succ {α : Type} {f : α → Bool} {l : List α} {i : Nat} {a : α} (h : l[i]? = some a) (h0 : (l.take i).any f = false) (h1 : f a = false) : (l.take (i + 1)).any f = false := by
  rw [List.take_succ, h, List.any_append, h0]
  simp [h1]
theorem any_at {α : Type} {f : α → Bool} {l : List α} {i : Nat} {a : α} (h : l[i]? = some a) (h1 : f a = true) : l.any f = true := List.any_eq_true.mpr ⟨a, List.mem_of_getElem? h, h1⟩
def takersAt (ps : List Pt) (idx : Int) : List Int := (namedI ps).flatMap fun x => (x.2.filter fun c => decide (c.1 ≤ idx ∧ idx ≤ c.2)).map fun _ => x.1
def lastOth (ps : List Pt) : Bool := match ps.getLast? with | some .others => true | _ => false
def takers2 (ps : List Pt) (lo cnt idx : Int) : List Int := if idx - lo < cnt then takersAt ps idx ++ [idx - lo] else takersAt ps idx
def placeStep (ps : List Pt) (lo cnt : Int) (found : List Int) (idx : Int) : Option (List Int) :=
  let t := takers2 ps lo cnt idx
  if t.length > 1 ∨ (t = [] ∧ lastOth ps = false) then none else some (found ++ [match t with | a :: _ => a | [] => (ps.length : Int) - 1])
def countPos (ps : List Pt) : Int := ((ps.filter fun p => match p with | .pos => true | _ => false).length : Nat)
def placesO (ps : List Pt) (lo hi : Int) : Option (List Int) :=
  if (namedI ps).any (badN lo hi) = true then none else if countPos ps > hi - lo + 1 then none else optFold (placeStep ps lo (countPos ps)) [] (rng lo hi)
end
end Mine
end
section
open PySem PySem.W PyProof.Rows PySem.Calls PySem.SeqAt
set_option maxRecDepth 100000
namespace Mine
section
variable {prog : Program} {w : World} {A : Around} {E : Value → Shared → Prop} {s : Shared} {h₀ : Heap} {L : Addr} {m : Str → Option Value} {news : Led}

theorem range_all2 {e : Nat → Bool} : (List.range 2).all e = (e 0 && e 1) := by
  simp [List.range_succ]
theorem pair_vals (a b c d : Int) : ((List.range (min 2 2)).all (fun j => if j = 0 then a == c else b == d) && (2 == 2 : Bool)) = decide (a = c ∧ b = d) := by
  rw [show min 2 2 = 2 from rfl, range_all2]
  by_cases h1 : a = c <;> by_cases h2 : b = d <;> simp [h1, h2]
theorem pair_el {lo hi lo' hi' : Int} {t u t' u' : Tok} {A : Around} {s : Shared} : ∀ j (h1 : j < (#[Value.int lo t, Value.int hi u]).size) (h2 : j < (#[Value.int lo' t', Value.int hi' u']).size), EqAt A s (#[Value.int lo t, Value.int hi u])[j] (#[Value.int lo' t', Value.int hi' u'])[j] (if j = 0 then lo == lo' else hi == hi')
  | 0, _, _ => EqAt.int_int _ _ _ _
  | 1, _, _ => EqAt.int_int _ _ _ _
  | _ + 2, h, _ => absurd h (by simp)
theorem pair_rc {p q : Addr} {lo hi lo' hi' : Int} {t u t' u' : Tok} {n n' : Nat} (N : News h₀ L s.heap news) (hp : (p, tupOf #[.int lo t, .int hi u] n) ∈ news) (hq : (q, tupOf #[.int lo' t', .int hi' u'] n') ∈ news) (hu : A.units < cLine) :
    RcAt A s (.ref p) (.ref q) (decide (lo = lo' ∧ hi = hi')) := by
  have := RcAt.tuples (e := fun j => if j = 0 then lo == lo' else hi == hi') (isTuple_of N hp) (isTuple_of N hq) hu pair_el
  rw [show ((List.range (min (#[Value.int lo t, Value.int hi u]).size (#[Value.int lo' t', Value.int hi' u']).size)).all (fun j => if j = 0 then lo == lo' else hi == hi') && (#[Value.int lo t, Value.int hi u]).size == (#[Value.int lo' t', Value.int hi' u']).size) = decide (lo = lo' ∧ hi = hi') from pair_vals ..] at this
  exact this
theorem pair_ne {p q : Addr} {lo hi lo' hi' : Int} {t u t' u' : Tok} {n n' : Nat} (N : News h₀ L s.heap news) (hp : (p, tupOf #[.int lo t, .int hi u] n) ∈ news) (hq : (q, tupOf #[.int lo' t', .int hi' u'] n') ∈ news) (hu : A.units < cLine) :
    RcNeAt A s (.ref p) (.ref q) (!decide (lo = lo' ∧ hi = hi')) := by
  have := RcNeAt.tuples (e := fun j => if j = 0 then lo == lo' else hi == hi') (isTuple_of N hp) (isTuple_of N hq) hu pair_el
  rw [show ((List.range (min (#[Value.int lo t, Value.int hi u]).size (#[Value.int lo' t', Value.int hi' u']).size)).all (fun j => if j = 0 then lo == lo' else hi == hi') && (#[Value.int lo t, Value.int hi u]).size == (#[Value.int lo' t', Value.int hi' u']).size) = decide (lo = lo' ∧ hi = hi') from pair_vals ..] at this
  exact this
theorem pair_eq {p q : Addr} {lo hi lo' hi' : Int} {t u t' u' : Tok} {n n' : Nat} (N : News h₀ L s.heap news) (hp : (p, tupOf #[.int lo t, .int hi u] n) ∈ news) (hq : (q, tupOf #[.int lo' t', .int hi' u'] n') ∈ news) (hu : A.units < cLine) :
    EqAt A s (.ref p) (.ref q) (decide (lo = lo' ∧ hi = hi')) := by
  by_cases hpq : p = q
  · subst hpq
    have e := (N _ hp).1.symm.trans (N _ hq).1
    have e2 : (#[Value.int lo t, Value.int hi u] : Array Value) = #[Value.int lo' t', Value.int hi' u'] := by
      injection e with e
      injection e with _ _ e
      injection e
    have e3 : lo = lo' ∧ hi = hi' := by
      simp at e2
      exact ⟨e2.1.1, e2.2.1⟩
    rw [decide_eq_true e3]
    exact EqAt.same _
  · exact EqAt.of_refs hpq (pair_rc N hp hq hu)

theorem bds_ne {a b p q : Addr} {lo hi lo' hi' : Int} {t u t' u' : Tok} {n n' k k' : Nat} {Q : Value → Shared → Prop} (N : News h₀ L s.heap news) (ha : (a, listOf [Value.ref p].toArray k) ∈ news) (hb : (b, listOf [Value.ref q].toArray k') ∈ news)
    (hp : (p, tupOf #[.int lo t, .int hi u] n) ∈ news) (hq : (q, tupOf #[.int lo' t', .int hi' u'] n') ∈ news) (hu : A.units < cLine) (hu1 : A.in1.units < cLine) (h : Q (.bool (!decide (lo = lo' ∧ hi = hi'))) s) :
    wpAny (model prog w) A (compareOp .NotEq (.ref a) (.ref b)) Q E s := by
  refine RcNeAt.lists (e := fun _ => decide (lo = lo' ∧ hi = hi')) (isList_of N ha) (isList_of N hb) rfl hu (fun j h1 h2 => ?_) prog w E Q ?_
  · obtain rfl : j = 0 := by simpa using h1
    exact pair_eq N hp hq hu1
  · simpa using h
theorem bds2_eq {a b p q p2 q2 : Addr} {lo hi lo' hi' lo2 hi2 lo2' hi2' : Int} {t u t' u' t2 u2 t2' u2' : Tok} {n n' k k' n2 n2' : Nat} {Q : Value → Shared → Prop} (N : News h₀ L s.heap news) (ha : (a, listOf [Value.ref p, .ref p2].toArray k) ∈ news) (hb : (b, listOf [Value.ref q, .ref q2].toArray k') ∈ news)
    (hp : (p, tupOf #[.int lo t, .int hi u] n) ∈ news) (hq : (q, tupOf #[.int lo' t', .int hi' u'] n') ∈ news) (hp2 : (p2, tupOf #[.int lo2 t2, .int hi2 u2] n2) ∈ news) (hq2 : (q2, tupOf #[.int lo2' t2', .int hi2' u2'] n2') ∈ news)
    (hu : A.units < cLine) (hu1 : A.in1.units < cLine) (h : Q (.bool (decide (lo = lo' ∧ hi = hi') && decide (lo2 = lo2' ∧ hi2 = hi2'))) s) :
    wpAny (model prog w) A (compareOp .Eq (.ref a) (.ref b)) Q E s := by
  refine RcAt.lists (e := fun j => if j = 0 then decide (lo = lo' ∧ hi = hi') else decide (lo2 = lo2' ∧ hi2 = hi2')) (isList_of N ha) (isList_of N hb) rfl hu (fun j h1 h2 => ?_) prog w E Q ?_
  · match j, h1, h2 with
    | 0, _, _ => exact pair_eq N hp hq hu1
    | 1, _, _ => exact pair_eq N hp2 hq2 hu1
    | j + 2, h1, _ => exact absurd h1 (by simp)
  · rw [show [Value.ref p, .ref p2].toArray.size = 2 from rfl, range_all2]
    exact h

theorem all_getD : ∀ {xs ys : List Int}, xs.length = ys.length → ((List.range xs.length).all fun j => xs.getD j 0 == ys.getD j 0) = decide (xs = ys) := by
  intro xs ys h
  by_cases e : xs = ys
  · subst e
    rw [decide_eq_true rfl, List.all_eq_true]
    intro j _
    exact beq_self_eq_true _
  · rw [decide_eq_false e]
    refine Bool.eq_false_iff.mpr fun ha => e ?_
    rw [List.all_eq_true] at ha
    refine List.ext_getElem h fun j h1 h2 => ?_
    have := ha j (List.mem_range.mpr h1)
    rw [List.getD_eq_getElem?_getD, List.getD_eq_getElem?_getD, List.getElem?_eq_getElem h1, List.getElem?_eq_getElem h2] at this
    exact eq_of_beq this
theorem ints_el {vs ws : List Value} {xs ys : List Int} (hx : Paired IntV vs xs) (hy : Paired IntV ws ys) {A : Around} {s : Shared} : ∀ j (h1 : j < vs.toArray.size) (h2 : j < ws.toArray.size), EqAt A s vs.toArray[j] ws.toArray[j] (xs.getD j 0 == ys.getD j 0) := by
  intro j h1 h2
  rw [List.size_toArray] at h1 h2
  obtain ⟨x, ex, t, e⟩ := paired_get hx (List.getElem?_eq_getElem h1)
  obtain ⟨y, ey, u, e'⟩ := paired_get hy (List.getElem?_eq_getElem h2)
  rw [List.getElem_toArray, List.getElem_toArray, e, e', List.getD_eq_getElem?_getD, List.getD_eq_getElem?_getD, ex, ey]
  exact EqAt.int_int _ _ _ _
theorem ints_ne {a b : Addr} {vs ws : List Value} {xs ys : List Int} {n k : Nat} {Q : Value → Shared → Prop} (N : News h₀ L s.heap news) (ha : (a, listOf vs.toArray n) ∈ news) (hb : (b, listOf ws.toArray k) ∈ news) (hx : Paired IntV vs xs) (hy : Paired IntV ws ys) (hu : A.units < cLine)
    (h : Q (.bool (!decide (xs = ys))) s) : wpAny (model prog w) A (compareOp .NotEq (.ref a) (.ref b)) Q E s := by
  have lx := paired_length hx
  have ly := paired_length hy
  by_cases hl : xs.length = ys.length
  · refine RcNeAt.lists (e := fun j => xs.getD j 0 == ys.getD j 0) (isList_of N ha) (isList_of N hb) (by simp [lx, ly, hl]) hu (ints_el hx hy) prog w E Q ?_
    rw [List.size_toArray, lx, all_getD hl]
    exact h
  · refine RcNeAt.lists_lengths (isList_of N ha) (isList_of N hb) (by simpa [lx, ly] using hl) hu prog w E Q ?_
    rw [decide_eq_false (fun e => hl (congrArg List.length e))] at h
    exact h
theorem ints_eq {a b : Addr} {vs ws : List Value} {xs ys : List Int} {n k : Nat} {Q : Value → Shared → Prop} (N : News h₀ L s.heap news) (ha : (a, listOf vs.toArray n) ∈ news) (hb : (b, listOf ws.toArray k) ∈ news) (hx : Paired IntV vs xs) (hy : Paired IntV ws ys) (hu : A.units < cLine)
    (h : Q (.bool (decide (xs = ys))) s) : wpAny (model prog w) A (compareOp .Eq (.ref a) (.ref b)) Q E s := by
  have lx := paired_length hx
  have ly := paired_length hy
  by_cases hl : xs.length = ys.length
  · refine RcAt.lists (e := fun j => xs.getD j 0 == ys.getD j 0) (isList_of N ha) (isList_of N hb) (by simp [lx, ly, hl]) hu (ints_el hx hy) prog w E Q ?_
    rw [List.size_toArray, lx, all_getD hl]
    exact h
  · refine RcAt.lists_lengths (isList_of N ha) (isList_of N hb) (by simpa [lx, ly] using hl) hu prog w E Q ?_
    rw [decide_eq_false (fun e => hl (congrArg List.length e))] at h
    exact h

theorem extend_led {D b : Addr} {xs ys : List Value} {n k : Nat} {rest : Led} {Q : Value → Shared → Prop} (F : Fr h₀ L s.heap m) (N : News h₀ L s.heap ((D, listOf xs.toArray n) :: rest)) (hb : (b, listOf ys.toArray k) ∈ rest) (hne : ∀ p ∈ rest, p.1 ≠ D) (hy : ys ≠ []) (hz : xs.length + ys.length ≤ 10000)
    (h : ∀ h', Fr h₀ L h' m → News h₀ L h' ((D, listOf (xs ++ ys).toArray (n + 1)) :: rest) → Q .none { s with heap := h' }) : wpAny (model prog w) A (call (.builtin "list.extend") [.ref D, .ref b]) Q E s :=
  kl_extend (its := xs.toArray) (its2 := ys.toArray) (l := xs ++ ys) F N (.tail _ hb) (by simp) (by simpa using hy) (.head hne) (by
    have h1 : xs.toArray.size + ys.toArray.size ≤ 10000 := by simpa using hz
    have h2 : Builtin.List.listTooLong (xs.toArray.size + ys.toArray.size) = false := decide_eq_false (by rw [sizeLine_eq]; omega)
    rw [h2, Bool.and_false]
    exact Bool.false_ne_true) (by rw [sizeLine_eq]; simp; omega) (by rw [sizeLine_eq]; simp; omega) h
structure Row where
  lo : Int
  hi : Int
  its : List Int
inductive RowIn (led : Led) (v : Value) (r : Row) : Prop
  | mk (x dx : Addr) (es : List DictEntry) (n : Nat) (bl : Addr) (nb : Nat) (ba : Addr) (na : Nat) (t u : Tok) (il : Addr) (ni : Nat) (ivs : List Value) (e : v = .ref x) (h1 : (x, instObj 70 dx) ∈ led) (h2 : (dx, dictOf es n) ∈ led)
    (h3 : getL (Str.ofString "bounds") es = some (some (.ref bl))) (h4 : getL (Str.ofString "items") es = some (some (.ref il))) (h5 : (bl, listOf [Value.ref ba].toArray nb) ∈ led) (h6 : (ba, tupOf #[.int r.lo t, .int r.hi u] na) ∈ led) (h7 : (il, listOf ivs.toArray ni) ∈ led) (h8 : Paired IntV ivs r.its) : RowIn led v r
theorem RowIn.mono {led led' : Led} {v : Value} {r : Row} (h : RowIn led v r) (hs : ∀ p ∈ led, p ∈ led') : RowIn led' v r :=
  h.casesOn fun x dx es n bl nb ba na t u il ni ivs e h1 h2 h3 h4 h5 h6 h7 h8 => ⟨x, dx, es, n, bl, nb, ba, na, t, u, il, ni, ivs, e, hs _ h1, hs _ h2, h3, h4, hs _ h5, hs _ h6, hs _ h7, h8⟩
inductive JoinIn (led : Led) (v : Value) (q : Addr) (lo hi : Int) (its : List Int) : Prop
  | mk (x dx : Addr) (es : List DictEntry) (n : Nat) (bl : Addr) (nb : Nat) (ba : Addr) (na : Nat) (t u : Tok) (il : Addr) (ni : Nat) (ivs : List Value) (e : v = .ref x) (h1 : (x, instObj 70 dx) ∈ led) (h2 : (dx, dictOf es n) ∈ led)
    (h3 : getL (Str.ofString "bounds") es = some (some (.ref bl))) (h4 : getL (Str.ofString "items") es = some (some (.ref il))) (h5 : (bl, listOf [Value.ref q, .ref ba].toArray nb) ∈ led) (h6 : (ba, tupOf #[.int lo t, .int hi u] na) ∈ led) (h7 : (il, listOf ivs.toArray ni) ∈ led) (h8 : Paired IntV ivs its) : JoinIn led v q lo hi its
def Row.same (r r' : Row) : Bool := decide (r.lo = r'.lo ∧ r.hi = r'.hi)
end
end Mine
end
section
open PySem PySem.W PyProof.Rows PySem.Calls
set_option maxRecDepth 100000
namespace Mine
abbrev frs (l : List Env) : List Addr := l.filterMap (·.frame)
def LeaveT (A₀ : Around) (base : Heap) (env : Env) (outer : List Env) (h₀ : Heap) (L : Addr) (m : Str → Option Value) (g : Heap) (R : Result → Shared → Prop) (v : Value) (s' : Shared) : Prop :=
  ∃ g' L' m' news', KtsTurn (frs (env :: outer)) g g' ∧ Fr g' L' s'.heap m' ∧ News g' L' s'.heap news' ∧
    ∀ h₀', KtsTurn (frs outer) h₀ h₀' → Fr h₀' L s'.heap m → News h₀' L s'.heap news' → Below A₀ base outer h₀' → R (.ok (.ret v)) s'
section
variable {A₀ : Around} {base h₀ g g' h : Heap} {outer : List Env} {L L' : Addr} {m m' : Str → Option Value} {env : Env} {news' : Led}

theorem frs_mem {b : Addr} (hf : env.frame = some L) (hm : b ∈ frs (env :: outer)) : b = L ∨ b ∈ frs outer := by
  unfold frs at hm
  rw [List.filterMap_cons_some hf] at hm
  exact List.mem_cons.mp hm
theorem dicts_of (FG : Fr h₀ L g m) (D : KtsDicts (frs outer) h₀) (hf : env.frame = some L) : KtsDicts (frs (env :: outer)) g := fun b hb => by
  rcases frs_mem hf hb with rfl | hb
  · obtain ⟨o, es, ep, e, hd, _⟩ := FG.ns
    exact ⟨o, es, ep, e, hd⟩
  · obtain ⟨o, es, n, ho, hd⟩ := D b hb
    exact ⟨o, es, n, FG.keep _ _ ho, hd⟩
theorem ground_turned (B : Below A₀ base outer h₀) (FG : Fr h₀ L g m) (hf : env.frame = some L) (T : KtsTurn (frs (env :: outer)) g g') (F' : Fr g' L' h m') (N' : News g' L' h news') :
    ∃ h₀', KtsTurn (frs outer) h₀ h₀' ∧ Fr h₀' L h m ∧ News h₀' L h news' ∧ Below A₀ base outer h₀' := by
  have nL : h₀.get? L = none := kts_self FG
  obtain ⟨T₁, S₁⟩ := kts_turn_at (h := h) (fs := frs outer) (g := h₀)
    (fun b hb => by
      obtain ⟨_, o, ho, _⟩ := B.frames.mem hb
      exact ⟨o, ho⟩)
    (fun b o e hn => F'.keep _ _ (T.other b o (FG.keep _ _ e) fun hm => by
      rcases frs_mem hf hm with rfl | hm
      · rw [nL] at e; cases e
      · exact hn hm))
    (fun b o e _ => by
      obtain ⟨sl, hs⟩ := T.up (FG.keep _ _ e)
      exact ⟨sl, F'.keep _ _ hs⟩)
  obtain ⟨o, es, ep, e, hd, hk, hfind⟩ := FG.ns
  obtain ⟨sl, hs⟩ := T.up e
  refine ⟨_, T₁, ⟨⟨_, es, ep, F'.keep _ _ hs, hd, hk, hfind⟩, S₁, by rw [T₁.size]; exact FG.above⟩, fun p hp => ⟨(N' p hp).1, fun q => ?_, T₁.none_ _ ?_⟩, ⟨B.stack, fun b o e => T₁.other b o (B.stays b o e) (fun hm => by
    rw [(B.frames.mem hm).1] at e
    cases e), B.frames.of_keeps fun b o e _ => by
    obtain ⟨sl', hs'⟩ := T₁.up e
    exact ⟨_, hs', rfl⟩⟩⟩
  · have z := (N' p hp).2.2
    rw [q, hs] at z
    cases z
  · cases q : h₀.get? p.1 with
    | none => rfl
    | some o =>
      obtain ⟨sl', hs'⟩ := T.up (FG.keep _ _ q)
      have z := (N' p hp).2.2
      rw [hs'] at z
      cases z
theorem turn_nil_fr {h₀' : Heap} (T : KtsTurn [] h₀ h₀') (F : Fr h₀' L h m) : Fr h₀ L h m := ⟨F.ns, fun b o e => F.keep b o (T.other b o e (fun x => nomatch x)), by rw [← T.size]; exact F.above⟩
theorem turn_nil_news {h₀' : Heap} (T : KtsTurn [] h₀ h₀') (N : News h₀' L h news') : News h₀ L h news' := fun p hp => ⟨(N p hp).1, (N p hp).2.1, by
  cases q : h₀.get? p.1 with
  | none => rfl
  | some o =>
    have z := (N p hp).2.2
    rw [T.other _ _ q (fun x => nomatch x)] at z
    cases z⟩
end
section
variable {prog : Program} {w : World} {A₀ A : Around} {s : Shared} {base h₀ : Heap} {outer : List Env} {L : Addr} {m : Str → Option Value} {env : Env} {news : Led} {K : Frag} {p : Program} {loose : List Str} {mean : ExcName → Option Value} {mg mb : Str → Option Value}
  {R : Result → Shared → Prop} {name qual : Str} {params : Arguments} {body : List Stmt} {scope : Scope} {dV kV doc pm cdv ct oc : Value} {an od : Option Addr} {osl : Array (Option Value)} {f : Addr} {args : Args} {binds : List (Str × Value)}

theorem code_T (B : Below A₀ base outer h₀) (F : Fr h₀ L s.heap m) (X₀ : K.In h₀) (N : News h₀ L s.heap news) (T : Top p loose mean mg mb h₀) (D : KtsDicts (frs outer) h₀) (hA : A.frames = some (env :: outer)) (hf : env.frame = some L) (hke : env.scope.kind = .function)
    (ho : K.lookup f = some ⟨oc, od, .func (fnOf name qual params body scope dV kV doc pm an cdv ct), osl⟩) (hcd : codeIn K cdv qual = true) (hroom : A.depth < recursionLimit)
    (hbind : BindsTo s (fnOf name qual params body scope dV kV doc pm an cdv ct) args binds) (hloc : ∀ y ∈ binds, scope.names.lookup y.1 = some .local)
    (h : ∀ g L' h₁, Fr h₀ L g m → Fr g L' h₁ (fun y => binds.reverse.lookup y) → News g L' h₁ news → Below A base (env :: outer) g → K.In g → Top p loose mean mg mb g → KtsDicts (frs (env :: outer)) g →
      wpAny (model prog w) (A.deeper (envOf qual scope L' f cdv)) (execs body (envOf qual scope L' f cdv))
        (fun fl s' => LeaveT A₀ base env outer h₀ L m g R (match fl with | .ret v => v | _ => .none) s')
        (fun e s' => wpAny (model prog w) (A.deeper (envOf qual scope L' f cdv)) (leaving (envOf qual scope L' f cdv) e) (fun _ s'' => R (.error e) s'') (fun e' s'' => R (.error e') s'') s')
        { s with heap := h₁, toks := s.toks + binds.length })
    (hco : scope.isCoroutine = false) (hgen : scope.isGenerator = false) (hk : scope.kind = .function)
    (hcell : ∀ x ∈ scope.names, x.2 ≠ .cell) : codeAny (model prog w) A (.call (.ref f) args) R s := by
  obtain ⟨FG, BG, st, _⟩ := groundX (R := R) B F N hA hf hke
  have X := X₀.keeps F.keep
  refine codeAny_call_def (fd := fnOf name qual params body scope dV kV doc pm an cdv ct) (body := body) (binds := binds) hroom (X _ _ ho) rfl (T.nolimit.keeps F.keep) (codeRec_of X hcd) rfl hbind hcell hloc (fun h₁ hns hk₁ => ?_) hco hgen hk
  refine wpAny_mono (h _ s.heap.objs.size h₁ FG ⟨hns, fun b o e => hk₁ b o (of_hideAll _ e), Nat.le_of_eq (hideAll_size _ _)⟩
    (fun p hp => ⟨hk₁ _ _ (N p hp).1, Nat.ne_of_lt (Heap.lt_size (N p hp).1), hideAll_none _ (List.mem_map_of_mem hp)⟩) BG (X₀.keeps st) (T.keeps st) (dicts_of FG D hf)) (fun fl s' hl => ?_) fun _ _ y => y
  obtain ⟨g', L', m', news', T', F', N', k⟩ := hl
  obtain ⟨h₀', T₁, F₁, N₁, B₁⟩ := ground_turned B FG hf T' F' N'
  exact k h₀' T₁ F₁ N₁ B₁

theorem code_TC (B : Below A₀ base outer h₀) (F : Fr h₀ L s.heap m) (X₀ : K.In h₀) (N : News h₀ L s.heap news) (T : Top p loose mean mg mb h₀) (D : KtsDicts (frs outer) h₀) (hA : A.frames = some (env :: outer)) (hf : env.frame = some L) (hke : env.scope.kind = .function)
    (ho : K.lookup f = some ⟨oc, od, .func (fnOf name qual params body scope dV kV doc pm an cdv ct), osl⟩) (hcd : codeIn K cdv qual = true) (hroom : A.depth < recursionLimit)
    (hbind : BindsTo s (fnOf name qual params body scope dV kV doc pm an cdv ct) args binds) (hkind : (binds.all fun y => scope.names.lookup y.1 == some .local || scope.names.lookup y.1 == some .cell) = true)
    (hnd : ((cellsFrom 0 scope.names []).map (·.1)).Nodup)
    (h : ∀ g L' h₁ tk cells, Fr h₀ L g m → Fr g L' h₁ (bindL (envOfC qual scope L' f cdv).kindOf binds fun _ => none) → News g L' h₁ (cells ++ news) →
      CellsAre (bindC (envOfC qual scope L' f cdv).kindOf binds fun _ => none) (cellsFrom (L' + 1) scope.names []) cells → Below A base (env :: outer) g → K.In g → Top p loose mean mg mb g → (∀ p ∈ news, p.1 < L') → KtsDicts (frs (env :: outer)) g →
      wpAny (model prog w) (A.deeper (envOfC qual scope L' f cdv)) (execs body (envOfC qual scope L' f cdv))
        (fun fl s' => LeaveT A₀ base env outer h₀ L m g R (match fl with | .ret v => v | _ => .none) s')
        (fun e s' => wpAny (model prog w) (A.deeper (envOfC qual scope L' f cdv)) (leaving (envOfC qual scope L' f cdv) e) (fun _ s'' => R (.error e) s'') (fun e' s'' => R (.error e') s'') s')
        { s with heap := h₁, toks := tk })
    (hco : scope.isCoroutine = false) (hgen : scope.isGenerator = false) (hk : scope.kind = .function) : codeAny (model prog w) A (.call (.ref f) args) R s := by
  obtain ⟨FG, BG, st, _⟩ := groundX (R := R) B F N hA hf hke
  have X := X₀.keeps F.keep
  refine codeAny_call_function hroom (X _ _ ho) rfl hco hgen rfl (codeRec_of X hcd) (hbind _ _ _ _ ?_)
  refine wpAny_newFunctionEnv_cells hk (kindsX hkind _) fun env' he s' x => ?_
  subst he
  refine ⟨(T.nolimit.keeps F.keep).keeps x.toInCall.keep, codeAny_func ?_⟩
  obtain ⟨h₁, tk, rfl, _⟩ := x.done
  have hk₁ := x.toInCall.keep
  obtain ⟨cells, NC, Y⟩ := Cl.news (h₀ := s.heap) (Nat.le_refl _) fun n c hm => ⟨x.cell n c (lookup_of_mem_nodup (cellsFrom_names scope.names 0 (s.heap.objs.size + 1) [] [] rfl ▸ hnd) hm), x.above n c hm⟩
  have NN : News (hideAll s.heap (news.map (·.1))) s.heap.objs.size h₁ (cells ++ news) := fun p hp => by
    rcases List.mem_append.mp hp with hp | hp
    · refine ⟨(NC p hp).1, (NC p hp).2.1, ?_⟩
      cases q : (hideAll s.heap (news.map (·.1))).get? p.1 with
      | none => rfl
      | some o => have := of_hideAll _ q; rw [(NC p hp).2.2] at this; cases this
    · exact ⟨hk₁ _ _ (N p hp).1, Nat.ne_of_lt (Heap.lt_size (N p hp).1), hideAll_none _ (List.mem_map_of_mem hp)⟩
  refine wpAny_mono (h _ s.heap.objs.size h₁ tk cells FG ⟨x.toInCall.ns, fun b o e => hk₁ b o (of_hideAll _ e), Nat.le_of_eq (hideAll_size _ _)⟩ NN Y BG (X₀.keeps st) (T.keeps st) (fun p hp => Heap.lt_size (N p hp).1) (dicts_of FG D hf)) (fun fl s' hl => ?_) fun _ _ y => y
  obtain ⟨g', L', m', news', T', F', N', k⟩ := hl
  obtain ⟨h₀', T₁, F₁, N₁, B₁⟩ := ground_turned B FG hf T' F' N'
  exact k h₀' T₁ F₁ N₁ B₁
end
end Mine
end
section
open PySem PySem.W PyProof.Rows
namespace Mine
theorem foldA {M : Model} {A : Around} {α : Type} {t : Sem α} {Q : α → Shared → Prop} {E : Value → Shared → Prop} {s : Shared} (h : let B := A; wpAny M B t Q E s) : wpAny M A t Q E s := h
theorem foldE {M : Model} {A : Around} {body : List Stmt} {env : Env} {Q : Flow → Shared → Prop} {E : Value → Shared → Prop} {s : Shared} (h : let e := env; wpAny M A (execs body e) Q E s) : wpAny M A (execs body env) Q E s := h
def ownCalls : List Nat := [28, 48, 51, 70, 81, 88, 95, 102, 109, 116, 123, 130, 137, 155, 166, 173, 178, 183, 188, 193, 200, 207, 212]
theorem brk_call {M : Model} {A : Around} {a : Addr} {vs : List Value} {kw : List (Str × Value)} {Q E : Value → Shared → Prop} {s : Shared} (_ha : ownCalls.contains a = true) (h : Brk (wpAny M A (call (.ref a) vs kw) Q E s)) : wpAny M A (call (.ref a) vs kw) Q E s := h
end Mine
end
open PySem PySem.W PyProof.Rows PySem.Calls PySem.SeqAt
set_option maxRecDepth 100000
namespace Mine
local macro_rules | `(tactic| walk_at "my brk") => `(tactic| refine Mine.brk ?_)
local macro_rules
  | `(tactic| walk_at "eval ListComp") => `(tactic| walk_at "my brk")
  | `(tactic| walk_at "exec Assign cons ListComp") => `(tactic| walk_at "my brk")
  | `(tactic| walk_at "exec For Name Call cons nil") => `(tactic| walk_at "my brk")
  | `(tactic| walk_at "exec For Name Name cons nil") => `(tactic| walk_at "my brk")
  | `(tactic| walk_at "exec For Tuple Name cons nil") => `(tactic| walk_at "my brk")
  | `(tactic| walk_at "pyIter ref") => `(tactic| walk_at "my brk")
  | `(tactic| walk_at "exec Raise some none") => `(tactic| walk_at "my brk")
  | `(tactic| walk_at "leaving ref") => `(tactic| walk_at "my brk")
  | `(tactic| walk_at "call builtin:list.append") => `(tactic| walk_at "my brk")
  | `(tactic| walk_at "binaryOp Mult ref int") => `(tactic| walk_at "my brk")
  | `(tactic| walk_at "binaryOp Add ref ref") => `(tactic| walk_at "my brk")
  | `(tactic| walk_at "compareOp NotEq ref ref") => `(tactic| walk_at "my brk")
  | `(tactic| walk_at "compareOp Eq ref ref") => `(tactic| walk_at "my brk")
  | `(tactic| walk_at "noteFrame ref") => `(tactic| walk_at "my brk")
local macro_rules | `(tactic| walk_at "my brkif") => `(tactic| (rename Mine.BrkIf => hbi; clear hbi; refine Mine.brk ?_))
local macro_rules
  | `(tactic| walk_at "exec Assign cons IfExp") => `(tactic| walk_at "my brkif")
  | `(tactic| walk_at "exec If") => `(tactic| walk_at "my brkif")
local macro_rules | `(tactic| walk_at "my brksub") => `(tactic| ((have hbsX : Mine.BrkSub := by assumption); clear hbsX; (with_reducible show wpAny _ _ (subscriptTail _ _ (Value.ref _) (Value.int _ _)) _ _ _); refine Mine.brk ?_))
local macro_rules
  | `(tactic| walk_at "subscriptTail") => `(tactic| walk_at "my brksub")
  | `(tactic| walk_at "subscriptTail Name Constant ref int") => `(tactic| walk_at "my brksub")
  | `(tactic| walk_at "subscriptTail Name UnaryOp ref int") => `(tactic| walk_at "my brksub")
  | `(tactic| walk_at "subscriptTail Subscript Constant ref int") => `(tactic| walk_at "my brksub")
  | `(tactic| walk_at "subscriptTail Name Name ref int") => `(tactic| walk_at "my brksub")
  | `(tactic| walk_at "subscriptTail Name BinOp ref int") => `(tactic| walk_at "my brksub")
  | `(tactic| walk_at "subscriptTail Subscript Name ref int") => `(tactic| walk_at "my brksub")
local macro_rules | `(tactic| walk_at "call ref") => `(tactic| (refine Mine.brk_call (by decide) ?_))
local macro_rules | `(tactic| walk_at "setItem ref int") => `(tactic| ((have hbsX : Mine.BrkSub := by assumption); clear hbsX; refine Mine.brk ?_))
local macro_rules | `(tactic| walk_at "eval Name") => `(tactic| (refine cname_L (by assumption) (by exact blk_C) (by assumption) rfl ?_ rfl rfl (by decide)))
local macro_rules | `(tactic| walk_at "eval Name") => `(tactic| (refine cname_C (by assumption) (by assumption) (by assumption) rfl ?_ rfl rfl (by decide)))
local macro_rules | `(tactic| k_all) => `(tactic| assumption)
local macro_rules | `(tactic| k_mem) => `(tactic| assumption)
local macro_rules | `(tactic| is_list) => `(tactic| exact Mine.isList_of (by with_reducible assumption) (by k_mem))
local macro_rules | `(tactic| walk_at "call builtin:len") => `(tactic| (with_reducible show wpAny _ _ (call (Value.builtin "len") [Value.ref _]) _ _ _; refine' Mine.len_led ?k1 ?k2 ?k3 ?_; (case k1 => k_asm); (case k2 => k_mem); (case k3 => first | omega | (simp only [List.length_append, List.length_cons, List.length_nil]; omega))))
local macro_rules | `(tactic| walk_at "my sub") => `(tactic| (intro p hp; simp only [List.mem_cons, List.mem_append, List.cons_append, List.nil_append, List.not_mem_nil, or_false] at hp ⊢; grind))
local macro_rules | `(tactic| walk_at "my room") => `(tactic| (first | assumption | (dsimp only [ktrTop, Around.deeper] at *; omega) | exact Nat.le_of_ble_eq_true rfl))
section
set_option maxHeartbeats 8000000 in
theorem grab_spec (w : World) (loose : List Str) (mean : ExcName → Option Value) (mg mb : Str → Option Value) {rest : Led} {sk bk : Addr} {spot many : Int} {t tm : Tok} {n nb : Nat} {vs : List Value} {ns : List Int}
    (hb : (bk, listOf vs.toArray nb) ∈ rest) (hsk : ∀ p ∈ rest, p.1 ≠ sk) (hi : IntsAre vs ns) (hlen : ns.length ≤ 40) (h0 : 0 ≤ spot) (h1 : spot < 1000) (h2 : 0 < many) (h3 : many < 100) :
    Calls w loose mean mg mb 1 166 [.ref sk, .int many tm] ((sk, sackO bk spot t n) :: rest) fun h₀ L m s Q =>
      ∀ r tr t' h' tk', 0 ≤ r → r < many → Fr h₀ L h' m → News h₀ L h' ((sk, sackO bk (spot + 1) t' n) :: rest) → Q (.int r tr) { s with heap := h', toks := tk' } := by
  unfold Calls
  k_fill
  intro dp un gd cn cs a ccd cl outer A₀ base h₀ L m s Q E B F X N T hk hd hu hret
  have hvl : vs.length = ns.length := hi.length
  refine wpAny_call ?_
  k_dflt (refine' code_def ?k1 ?k2 ?k3 ?k4 ?k5 ?kA ?kF ?kK ?k6 ?k7 ?k8 ?k9 ?kB ?_ ?c2 ?c3 ?c4 ?c5; (case kA => exact rfl); (case kF => exact rfl); (case kK => first | exact rfl | assumption); (case k1 => k_asm); (case k2 => k_asm); (case k3 => k_asm); (case k4 => k_asm); (case k5 => k_asm); (case k6 => k_is); (case k7 => k_is); (case k8 => ktr_room); (case k9 => exact BindsTo.of_eq rfl); (case c5 => decide); (case kB => exact locs rfl); (case c2 => exact rfl); (case c3 => exact rfl); (case c4 => exact rfl); k_whole; intro g' L' h' FG' F' N' B' X' T'; (try dsimp only); (try k_lift B'); (try k_fold))
  k_steps
  all_goals exact hret _ _ _ _ _ (Int.fmod_nonneg_of_pos _ h2) (Int.fmod_lt_of_pos _ h2) (by assumption) (by assumption)
end
section
set_option maxHeartbeats 8000000 in
theorem choice_spec (w : World) (loose : List Str) (mean : ExcName → Option Value) (mg mb : Str → Option Value) {rest : Led} {sk bk : Addr} {spot : Int} {t : Tok} {n nb : Nat} {vs : List Value} {ns : List Int}
    (hb : (bk, listOf vs.toArray nb) ∈ rest) (hsk : ∀ p ∈ rest, p.1 ≠ sk) (hi : IntsAre vs ns) (hlen : ns.length ≤ 40) (h0 : 0 ≤ spot) (h1 : spot < 900) :
    Calls w loose mean mg mb 2 173 [.ref sk] ((sk, sackO bk spot t n) :: rest) fun h₀ L m s Q =>
      ∀ a' l hh u v k t' h' tk', -1 ≤ l → l ≤ 5 → l - 1 ≤ hh → hh ≤ l + 2 → Fr h₀ L h' m → News h₀ L h' ((a', tupOf #[.int l u, .int hh v] k) :: (sk, sackO bk (spot + 2) t' n) :: rest) → (∀ p ∈ (sk, sackO bk (spot + 2) t' n) :: rest, p.1 < a') → Q (.ref a') { s with heap := h', toks := tk' } := by
  unfold Calls
  k_fill
  intro dp un gd cn cs a ccd cl outer A₀ base h₀ L m s Q E B F X N T hk hd hu hret
  have hvl : vs.length = ns.length := hi.length
  refine wpAny_call ?_
  k_dflt (refine' code_def ?k1 ?k2 ?k3 ?k4 ?k5 ?kA ?kF ?kK ?k6 ?k7 ?k8 ?k9 ?kB ?_ ?c2 ?c3 ?c4 ?c5; (case kA => exact rfl); (case kF => exact rfl); (case kK => first | exact rfl | assumption); (case k1 => k_asm); (case k2 => k_asm); (case k3 => k_asm); (case k4 => k_asm); (case k5 => k_asm); (case k6 => k_is); (case k7 => k_is); (case k8 => ktr_room); (case k9 => exact BindsTo.of_eq rfl); (case c5 => decide); (case kB => exact locs rfl); (case c2 => exact rfl); (case c3 => exact rfl); (case c4 => exact rfl); k_whole; intro g1 L1 h1 FG1 F1 N1 B1 X1 T1; (try dsimp only); (try k_lift B1); (try k_fold))
  refine foldA ?_
  intro fA
  try (have fR : Around.units fA < cLine := by (simp only [fA, Around.deeper]; omega))
  try (have fR1 : Around.units (Around.in1 fA) < cLine := by (simp only [fA, Around.deeper, Around.in1]; omega))
  refine foldE ?_
  intro fE
  (try k_fold)
  replace F1 : Fr _ _ _ (fun y => List.lookup y [(Str.ofString "sack", Value.ref sk)]) := F1
  k_steps
  refine unbrk ?_
  k_fold
  refine' (grab_spec w loose mean mg mb (rest := rest) hb hsk (by assumption) hlen h0 (by omega) (by decide) (by decide)) _ _ _ _ _ _ _ _ _ _ _ _ _ _ _ _ _ (by assumption) (by assumption) (by assumption) (by assumption) (by assumption) (by first | exact rfl | assumption) ?kd1 ?ku1 ?kr1
  case kd1 => first | omega | (dsimp only [ktrTop, Around.deeper, Around.mark, Around.in1]; omega) | exact Nat.le_of_ble_eq_true rfl
  case ku1 => first | omega | (dsimp only [ktrTop, Around.deeper, Around.mark, Around.in1]; omega) | exact Nat.le_of_ble_eq_true rfl
  intro r tr t' h' tk' r0 r1 F2 N2
  k_steps
  refine unbrk ?_
  k_fold
  rename_i D3 h3 F3 N3 l3
  refine' (grab_spec w loose mean mg mb (rest := (D3, _) :: rest) (.tail _ hb) (List.forall_mem_cons.mpr ⟨Nat.ne_of_gt l3.1, hsk⟩) (by assumption) hlen (by omega) (by omega) (by decide) (by decide)) _ _ _ _ _ _ _ _ _ _ _ _ _ _ _ _ _ (by assumption) (by assumption) (by assumption) (news_swap N3) (by assumption) (by first | exact rfl | assumption) ?kd2 ?ku2 ?kr2
  case kd2 => first | omega | (dsimp only [ktrTop, Around.deeper, Around.mark, Around.in1]; omega) | exact Nat.le_of_ble_eq_true rfl
  case ku2 => first | omega | (dsimp only [ktrTop, Around.deeper, Around.mark, Around.in1]; omega) | exact Nat.le_of_ble_eq_true rfl
  intro r₂ tr₂ t₂ h₂ tk₂ r₂0 r₂1 F4 N4
  k_steps
  rename_i D5 h5 F5 N5 l5 kF5 kN5 T5 X5
  have he : -1 ≤ [0, 0, 1, 2, -1].getD r₂.toNat 0 ∧ [0, 0, 1, 2, -1].getD r₂.toNat 0 ≤ (2 : Int) := by
    have : r₂ = 0 ∨ r₂ = 1 ∨ r₂ = 2 ∨ r₂ = 3 ∨ r₂ = 4 := by omega
    rcases this with rfl | rfl | rfl | rfl | rfl <;> decide
  have es : spot + 1 + 1 = spot + 2 := by omega
  rw [es] at kN5
  generalize [0, 0, 1, 2, -1].getD r₂.toNat 0 = e at *
  exact hret D5 (r - 1) (r - 1 + e) _ _ _ _ _ _ (by omega) (by omega) (by omega) (by omega) kF5 (news_d3 kN5) (List.forall_mem_cons.mpr ⟨l5.1, lt_all l5.2.2⟩)
end
section
theorem paired_snoc {α β : Type} {F : α → β → Prop} {a : α} {b : β} : ∀ {l₁ : List α} {l₂ : List β}, Paired F l₁ l₂ → F a b → Paired F (l₁ ++ [a]) (l₂ ++ [b])
  | _, _, .nil, h => .cons h .nil
  | _, _, .cons h t, k => .cons h (paired_snoc t k)
theorem if_swap {a b : Str} {A B C : Option Value} {y : Str} (h : a ≠ b) : (if y = a then A else if y = b then B else C) = if y = b then B else if y = a then A else C := by
  by_cases e : y = a
  · subst e
    rw [if_pos rfl, if_neg h, if_pos rfl]
  · rw [if_neg e, if_neg e]
def ChOk (c : Int × Int) : Prop := -1 ≤ c.1 ∧ c.1 ≤ 5 ∧ c.1 - 1 ≤ c.2 ∧ c.2 ≤ c.1 + 2
def CsOk (cs : List (Int × Int)) : Prop := cs ≠ [] ∧ cs.length ≤ 2 ∧ ∀ c ∈ cs, ChOk c
def PartsOk (ps : List Pt) : Prop := ∃ body tail, ps = body ++ tail ∧ ps ≠ [] ∧ (tail = [] ∨ tail = [.others]) ∧
  ((∃ k, k ≤ 5 ∧ body = List.replicate k .pos) ∨ ∃ css : List (List (Int × Int)), css.length ≤ 3 ∧ body = css.map .named ∧ ∀ cs ∈ css, CsOk cs)

theorem paired_rep {α β : Type} {F : α → β → Prop} {a : α} {b : β} : ∀ n, F a b → Paired F (List.replicate n a) (List.replicate n b)
  | 0, _ => .nil
  | n + 1, h => .cons h (paired_rep n h)
theorem news_p5 {h₀ h : Heap} {L : Addr} {a b c d e f : Addr × Obj} {r : Led} (N : News h₀ L h (a :: b :: c :: d :: e :: f :: r)) : News h₀ L h (b :: a :: f :: ([c, d, e] ++ r)) := news_sub N (by
  intro p hp
  simp only [List.mem_cons, List.cons_append, List.nil_append] at hp ⊢
  grind)
theorem news_d3' {h₀ h : Heap} {L : Addr} {a b c d e : Addr × Obj} {r : Led} (N : News h₀ L h (a :: b :: c :: d :: e :: r)) : News h₀ L h (a :: b :: c :: d :: r) := fun x hx => N x (by
  simp only [List.mem_cons] at hx ⊢
  grind)
theorem parts_last {h₀ h' : Heap} {L L1 sk bk fd' D q t6 : Addr} {m : Str → Option Value} {s : Shared} {Q : Value → Shared → Prop} {rest tl : Led} {spot spot' : Int} {t5 u1 u2 : Tok} {n n' tk' : Nat} {oc : Obj} {refs : List Value} {body : List Pt}
    (hret : ∀ ps v tl spot' t' h' tk', PartsOk ps → Fr h₀ L h' m → News h₀ L h' ((sk, sackO bk spot' t' n) :: (tl ++ rest)) → PtsIn tl v ps → (∀ p ∈ tl, p.1 ≠ sk) → 0 ≤ spot' → spot' < spot + 100 → Q v { s with heap := h', toks := tk' })
    (hp : Paired (PtIn tl) refs body) (htl : ∀ p ∈ tl, p.1 ≠ sk) (hfd : fd' ≠ sk) (hs0 : 0 ≤ spot') (hs1 : spot' < spot + 90)
    (hsh : (∃ k, k ≤ 5 ∧ body = List.replicate k .pos) ∨ ∃ css : List (List (Int × Int)), css.length ≤ 3 ∧ body = css.map .named ∧ ∀ cs ∈ css, CsOk cs)
    (hne : D ≠ sk ∧ q ≠ sk ∧ t6 ≠ sk ∧ L1 + 1 ≠ sk) (F : Fr h₀ L h' m)
    (N : News h₀ L h' ((sk, sackO bk (spot' + 1) t5 n) :: ([(D, listOf (refs ++ [Value.ref t6]).toArray 0), (q, listOf [Value.ref t6].toArray 0), (t6, tupOf #[.str (Str.ofString "others") u1, .str (Str.ofString "o") u2] 0)] ++ (fd', listOf (List.toArray refs) n') :: (L1 + 1, oc) :: (tl ++ rest)))) :
    Q (.ref D) { s with heap := h', toks := tk' } := by
  refine hret (body ++ [.others]) _ ((D, listOf (refs ++ [Value.ref t6]).toArray 0) :: (q, listOf [Value.ref t6].toArray 0) :: (t6, tupOf #[.str (Str.ofString "others") u1, .str (Str.ofString "o") u2] 0) :: (fd', listOf (List.toArray refs) n') :: (L1 + 1, oc) :: tl) (spot' + 1) t5 _ _ ⟨body, [.others], rfl, by simp, .inr rfl, hsh⟩ F N
    ⟨D, 0, _, rfl, .head _, paired_snoc (paired_mono (fun _ _ x => x.mono fun p hp => .tail _ (.tail _ (.tail _ (.tail _ (.tail _ hp))))) hp) (show PtIn _ (.ref t6) .others from ⟨t6, 0, _, _, _, rfl, .tail _ (.tail _ (.head _)), u1, rfl⟩)⟩ ?_ (by omega) (by omega)
  exact List.forall_mem_cons.mpr ⟨hne.1, List.forall_mem_cons.mpr ⟨hne.2.1, List.forall_mem_cons.mpr ⟨hne.2.2.1, List.forall_mem_cons.mpr ⟨hfd, List.forall_mem_cons.mpr ⟨hne.2.2.2, htl⟩⟩⟩⟩⟩
set_option maxHeartbeats 8000000 in
theorem parts_spec (w : World) (loose : List Str) (mean : ExcName → Option Value) (mg mb : Str → Option Value) {rest : Led} {sk bk : Addr} {spot : Int} {t : Tok} {n nb : Nat} {vs : List Value} {ns : List Int}
    (hb : (bk, listOf vs.toArray nb) ∈ rest) (hsk : ∀ p ∈ rest, p.1 ≠ sk) (hi : IntsAre vs ns) (hlen : ns.length ≤ 40) (h0 : 0 ≤ spot) (h1 : spot < 500) :
    Calls w loose mean mg mb 3 178 [.ref sk] ((sk, sackO bk spot t n) :: rest) fun h₀ L m s Q =>
      ∀ ps v tl spot' t' h' tk', PartsOk ps → Fr h₀ L h' m → News h₀ L h' ((sk, sackO bk spot' t' n) :: (tl ++ rest)) → PtsIn tl v ps → (∀ p ∈ tl, p.1 ≠ sk) → 0 ≤ spot' → spot' < spot + 100 → Q v { s with heap := h', toks := tk' } := by
  unfold Calls
  k_fill
  intro dp un gd cn cs a ccd cl outer A₀ base h₀ L m s Q E B F X N T hk hd hu hret
  have hvl : vs.length = ns.length := hi.length
  refine wpAny_call ?_
  k_dflt (refine' code_defC ?k1 ?k2 ?k3 ?k4 ?k5 ?kA ?kF ?kK ?k6 ?k7 ?k8 ?k9 ?kB ?kD ?_ ?c2 ?c3 ?c4; (case kA => exact rfl); (case kF => exact rfl); (case kK => first | exact rfl | assumption); (case k1 => k_asm); (case k2 => k_asm); (case k3 => k_asm); (case k4 => k_asm); (case k5 => k_asm); (case k6 => k_is); (case k7 => k_is); (case k8 => ktr_room); (case k9 => exact BindsTo.of_eq rfl); (case kB => exact rfl); (case kD => decide +kernel); (case c2 => exact rfl); (case c3 => exact rfl); (case c4 => exact rfl); k_whole; intro g1 L1 h1 tk1 cellsY FG1 F1 N1 hY B1 X1 T1 l1; (try k_lt l1); k_cells hY; (try simp only [List.cons_append, List.nil_append] at N1); (try dsimp only); (try k_lift B1); (try k_fold))
  rename_i oc hoc
  refine foldA ?_
  intro fA
  try (have fR : Around.units fA < cLine := by (simp only [fA, Around.deeper]; omega))
  try (have fR1 : Around.units (Around.in1 fA) < cLine := by (simp only [fA, Around.deeper, Around.in1]; omega))
  refine foldE ?_
  intro fE
  (try k_fold)
  replace F1 : Fr _ _ _ (fun _ => none) := F1
  replace hoc : oc.data = .cell (some (.ref sk)) := hoc
  have hbi : BrkIf := ⟨⟩
  k_steps
  refine unbrk ?_
  (try k_fold)
  rename_i fd h2 l2 h3 F3 N3
  refine cut_next (R := fun s' => ∃ (fd' : Addr) (body : List Pt) (refs : List Value) (n' : Nat) (tl : Led) (spot' : Int) (t' : Tok) (h' : Heap) (tk' : Nat) (u : Str → Option Value), s' = { s with heap := h', toks := tk' } ∧ Fr g1 L1 h' (fun y => if y = Str.ofString "found" then some (.ref fd') else u y) ∧
    News g1 L1 h' ((sk, sackO bk spot' t' n) :: (fd', listOf (List.toArray refs) n') :: (L1 + 1, oc) :: (tl ++ rest)) ∧ Paired (PtIn tl) refs body ∧ (∀ p ∈ tl, p.1 ≠ sk) ∧ fd' ≠ sk ∧ 0 ≤ spot' ∧ spot' < spot + 90 ∧
    ((∃ k, k ≤ 5 ∧ body = List.replicate k .pos) ∨ ∃ css : List (List (Int × Int)), css.length ≤ 3 ∧ body = css.map .named ∧ ∀ cs ∈ css, CsOk cs)) ?first ?tail
  case first =>
    refine wpAny_If ?_
    k_steps
    refine unbrk ?_
    (try k_fold)
    have hne : ∀ p ∈ (fd, listOf #[] 0) :: (L1 + 1, oc) :: rest, p.1 ≠ sk := by k_all
    refine' (grab_spec w loose mean mg mb (rest := (fd, listOf #[] 0) :: (L1 + 1, oc) :: rest) (.tail _ (.tail _ hb)) hne (by assumption) hlen h0 (by omega) (by decide) (by decide)) _ _ _ _ _ _ _ _ _ _ _ _ _ _ _ _ _ (by assumption) (by assumption) (by assumption) (news_pull2 N3) (by assumption) (by first | exact rfl | assumption) ?kd1 ?ku1 ?kr1
    case kd1 => first | omega | (dsimp only [ktrTop, Around.deeper, Around.mark, Around.in1]; omega) | exact Nat.le_of_ble_eq_true rfl
    case ku1 => first | omega | (dsimp only [ktrTop, Around.deeper, Around.mark, Around.in1]; omega) | exact Nat.le_of_ble_eq_true rfl
    intro r tr t2 h4 tk4 r0 r1 F4 N4
    k_steps
    · refine unbrk ?_
      (try k_fold)
      rename_i hr0 D5 h5 l5 q6 h6 F6 N6 l6
      refine' (grab_spec w loose mean mg mb (by k_mem) (by k_all) (by assumption) hlen (by omega) (by omega) (by decide) (by decide)) _ _ _ _ _ _ _ _ _ _ _ _ _ _ _ _ _ (by assumption) (by assumption) (by assumption) (news_pull2 N6) (by assumption) (by first | exact rfl | assumption) ?kd2 ?ku2 ?kr2
      case kd2 => first | omega | (dsimp only [ktrTop, Around.deeper, Around.mark, Around.in1]; omega) | exact Nat.le_of_ble_eq_true rfl
      case ku2 => first | omega | (dsimp only [ktrTop, Around.deeper, Around.mark, Around.in1]; omega) | exact Nat.le_of_ble_eq_true rfl
      intro r7 tr7 t7 h7 tk7 r70 r71 F7 N7
      k_steps
      refine unbrk ?_
      (try k_fold)
      refine KMa.mul F7 N7 (isList_of N7 (.tail _ (.head _))) (by omega) (by omega) (by simp; omega) (lm_rep_flat_one _ _) (fun D8 h8 F8 N8 l8 => ?_)
      k_steps
      refine meet ⟨rfl, D8, List.replicate r7.toNat .pos, _, 0, [(q6, _), (D5, _), (fd, _)], spot + 1 + 1, t7, _, _, fun y => if y = Str.ofString "found" then some (Value.ref fd) else none, rfl, by assumption, news_p5 (by assumption), ?_, ?_, ?_, by omega, by omega, .inl ⟨r7.toNat, by omega, rfl⟩⟩
      · exact paired_rep _ ⟨D5, _, .none, _, _, rfl, .tail _ (.head _), rfl⟩
      · intro p hp
        simp only [List.mem_cons, List.not_mem_nil, or_false] at hp
        rcases hp with rfl | rfl | rfl
        · exact Nat.ne_of_gt l6.2.1
        · exact Nat.ne_of_gt l5.1
        · exact Nat.ne_of_gt l2.2.1
      · exact Nat.ne_of_gt (l8 _ (.head _))
    · refine unbrk ?_
      (try k_fold)
      refine wpAny_For (hs := fun _ => rfl) ?_
      k_steps
      refine unbrk ?_
      (try k_fold)
      have hne : ∀ p ∈ (fd, listOf #[] 0) :: (L1 + 1, oc) :: rest, p.1 ≠ sk := by assumption
      refine' (grab_spec w loose mean mg mb (spot := spot + 1) (rest := (fd, listOf #[] 0) :: (L1 + 1, oc) :: rest) (.tail _ (.tail _ hb)) hne (by assumption) hlen (by omega) (by omega) (by decide) (by decide)) _ _ _ _ _ _ _ _ _ _ _ _ _ _ _ _ _ (by assumption) (by assumption) (by assumption) (by assumption) (by assumption) (by first | exact rfl | assumption) ?kd3 ?ku3 ?kr3
      case kd3 => first | omega | (dsimp only [ktrTop, Around.deeper, Around.mark, Around.in1]; omega) | exact Nat.le_of_ble_eq_true rfl
      case ku3 => first | omega | (dsimp only [ktrTop, Around.deeper, Around.mark, Around.in1]; omega) | exact Nat.le_of_ble_eq_true rfl
      intro r5 tr5 t5 h5 tk5 r50 r51 F5 N5
      k_steps
      refine unbrk ?_
      (try k_fold)
      rename_i h6 tk6 _ _ _ hr6 F6 N6 _
      refine for_range (n := (r5 - 0).toNat) (fun i m₁ nx => ∃ (css : List (List (Int × Int))) (refs : List Value) (n' : Nat) (tl : Led) (spot' : Int) (t' : Tok) (u : Str → Option Value), css.length = i ∧ m₁ = (fun y => if y = Str.ofString "found" then some (.ref fd) else u y) ∧
        nx = (sk, sackO bk spot' t' n) :: (fd, listOf (List.toArray refs) n') :: (L1 + 1, oc) :: (tl ++ rest) ∧ Paired (PtIn tl) refs (css.map .named) ∧ (∀ p ∈ tl, p.1 ≠ sk ∧ p.1 ≠ fd) ∧ 0 ≤ spot' ∧ spot' ≤ spot + 2 + 5 * i ∧ ∀ cs ∈ css, CsOk cs) rfl hr6 ?hsmall ?hn F6 N6 ?hj ?turn ?done ?hE
      case hsmall => exact small_one (by omega) (by omega) (by omega) (by omega)
      case hn => exact rangeSize_nat _ _
      case hj => exact ⟨[], [], 0, [], _, _, fun _ => none, rfl, rfl, rfl, .nil, List.forall_mem_nil _, by omega, by omega, List.forall_mem_nil _⟩
      case turn =>
        intro i t m₁ nx h7 tk7 own hi7 hoff hJ F7 N7
        (try k_fold)
        obtain ⟨css, refs, n', tl, spot', t', u, e1, e2, e3, hp, htl, hs0, hs1, hcs⟩ := hJ
        subst e2
        subst e3
        replace F7 : Fr g1 L1 h7 (fun y => if y = Str.ofString "found" then some (.ref fd) else u y) := F7
        replace N7 : News g1 L1 h7 ((sk, sackO bk spot' t' n) :: (fd, listOf (List.toArray refs) n') :: (L1 + 1, oc) :: ((tl ++ rest) ++ own)) := N7
        (try k_fold)
        k_steps
        refine unbrk ?_
        (try k_fold)
        refine lc_none (cl := [(Str.ofString "sack", _)]) rfl rfl (by decide) (fun _ => rfl) ?_
        k_steps
        refine unbrk ?_
        (try k_fold)
        rename_i h8 F8 tk8 N8
        have htall : ∀ p ∈ (fd, listOf (List.toArray refs) n') :: (L1 + 1, oc) :: (tl ++ rest ++ own), p.1 ≠ sk := by
          have ho : ∀ p ∈ own, p.1 ≠ sk := fun p hp => Ne.symm (hoff _ (.head _) p hp)
          exact List.forall_mem_cons.mpr ⟨hne (fd, listOf #[] 0) (.head _), List.forall_mem_cons.mpr ⟨hne (L1 + 1, oc) (.tail _ (.head _)), List.forall_mem_append.mpr ⟨List.forall_mem_append.mpr ⟨fun p hp => (htl p hp).1, fun p hp => hsk p hp⟩, ho⟩⟩⟩
        refine' (grab_spec w loose mean mg mb (spot := spot') (rest := (fd, listOf (List.toArray refs) n') :: (L1 + 1, oc) :: (tl ++ rest ++ own)) (.tail _ (.tail _ (List.mem_append_left _ (List.mem_append_right _ hb)))) htall (by assumption) hlen hs0 (by omega) (by decide) (by decide)) _ _ _ _ _ _ _ _ _ _ _ _ _ _ _ _ _ (by assumption) (by assumption) (by assumption) (by assumption) (by assumption) (by first | exact rfl | assumption) ?kd4 ?ku4 ?kr4
        case kd4 => first | omega | (dsimp only [ktrTop, Around.deeper, Around.mark, Around.in1]; omega) | exact Nat.le_of_ble_eq_true rfl
        case ku4 => first | omega | (dsimp only [ktrTop, Around.deeper, Around.mark, Around.in1]; omega) | exact Nat.le_of_ble_eq_true rfl
        intro r9 tr9 t9 h9 tk9 r90 r91 F9 N9
        k_steps
        refine unbrk ?_
        (try k_fold)
        rename_i h10 tk10 _ _ _ hr10 F10 N10 _
        refine comp_range (n := (1 + r9 - 0).toNat) rfl hr10 (small_one (by omega) (by omega) (by omega) (by omega)) (rangeSize_nat _ _) (fun j ys nx => ∃ (cs : List (Int × Int)) (tl2 : Led) (spot2 : Int) (t2 : Tok), cs.length = j ∧ (∀ c ∈ cs, ChOk c) ∧ Paired (ChIn tl2) ys cs ∧
          nx = (sk, sackO bk spot2 t2 n) :: (fd, listOf (List.toArray refs) n') :: (L1 + 1, oc) :: (tl2 ++ (tl ++ rest ++ own)) ∧ (∀ p ∈ tl2, p.1 ≠ sk ∧ p.1 ≠ fd ∧ ∀ q ∈ own, p.1 ≠ q.1) ∧ 0 ≤ spot2 ∧ spot2 ≤ spot' + 1 + 2 * j ∧ j ≤ 2) ?hlen F10 N10 ?hj (by decide) rfl ?turn2 ?done2
        case hlen => 
          intro j ys nx hJ
          obtain ⟨cs, tl2, spot2, t2, e1, _, e3, _, _, _, _, e4⟩ := hJ
          rw [paired_length e3]
          omega
        case hj => exact ⟨[], [], _, _, rfl, List.forall_mem_nil _, .nil, rfl, List.forall_mem_nil _, by omega, by omega, by omega⟩
        case turn2 =>
          intro C D j t11 h11 tk11 nx oC cm ys k ow Bk hj F11 N11 off11 hns11 hJ
          (try k_fold)
          obtain ⟨cs, tl2, spot2, t2, f1, hcs2, hp2, e3, htl2, hs20, hs21, hj2⟩ := hJ
          subst e3
          refine bind_name Bk rfl rfl F11 N11 off11 hns11 (fun h12 oC12 F12 N12 off12 hns12 => ?_)
          refine ⟨oC12, _, hns12, ?_⟩
          refine wpAny_tests_nil ?_
          rw [if_pos rfl]
          k_steps
          refine unbrk ?_
          (try k_fold)
          have hall2 : ∀ p ∈ ((fd, listOf (List.toArray refs) n') :: (L1 + 1, oc) :: (tl2 ++ (tl ++ rest ++ own))) ++ blk C oC12 D ys k ow, p.1 ≠ sk := by
            refine List.forall_mem_append.mpr ⟨?_, fun p hp => Ne.symm (off12 _ (.head _) p hp)⟩
            have h5 := List.forall_mem_cons.mp htall
            have h6 := List.forall_mem_cons.mp h5.2
            exact List.forall_mem_cons.mpr ⟨h5.1, List.forall_mem_cons.mpr ⟨h6.1, List.forall_mem_append.mpr ⟨fun p hp => (htl2 p hp).1, h6.2⟩⟩⟩
          have hb2 : (bk, listOf vs.toArray nb) ∈ ((fd, listOf (List.toArray refs) n') :: (L1 + 1, oc) :: (tl2 ++ (tl ++ rest ++ own))) ++ blk C oC12 D ys k ow := List.mem_append_left _ (.tail _ (.tail _ (List.mem_append_right _ (List.mem_append_left _ (List.mem_append_right _ hb)))))
          refine' (choice_spec w loose mean mg mb (spot := spot2) (rest := ((fd, listOf (List.toArray refs) n') :: (L1 + 1, oc) :: (tl2 ++ (tl ++ rest ++ own))) ++ blk C oC12 D ys k ow) hb2 hall2 (by assumption) hlen hs20 (by omega)) _ _ _ _ _ _ _ _ _ _ _ _ _ _ _ _ _ (by assumption) (by assumption) (by assumption) (N12) (by assumption) (by first | exact rfl | assumption) ?kd5 ?ku5 ?kr5
          case kd5 => first | omega | (dsimp only [ktrTop, Around.deeper, Around.mark, Around.in1]; omega) | exact Nat.le_of_ble_eq_true rfl
          case ku5 => first | omega | (dsimp only [ktrTop, Around.deeper, Around.mark, Around.in1]; omega) | exact Nat.le_of_ble_eq_true rfl
          intro a13 l13 hh13 u13 v13 k13 t13 h13 tk13 c0 c1 c2 c3 F13 N13 L13
          k_steps
          have q1 := L13 _ (.head _)
          have q2 := L13 _ (.tail _ (.head _))
          refine ⟨h13, tk13, (sk, sackO bk (spot2 + 2) t13 n) :: (fd, listOf (List.toArray refs) n') :: (L1 + 1, oc) :: (((a13, tupOf #[.int l13 u13, .int hh13 v13] k13) :: tl2) ++ (tl ++ rest ++ own)), rfl, F13, ?_, ?_, cs ++ [(l13, hh13)], (a13, tupOf #[.int l13 u13, .int hh13 v13] k13) :: tl2, spot2 + 2, t13, by simp [f1], ?_, ?_, rfl, ?_, by omega, by omega, by omega⟩
          · exact news_dn (pre := [_, _, _]) N13
          · intro p hp q hq
            have o5 := off12 
            rcases List.mem_cons.mp hp with rfl | hp
            · exact off12 (sk, sackO bk spot2 t2 n) (.head _) q hq
            · rcases List.mem_cons.mp hp with rfl | hp
              · exact off12 (fd, listOf refs.toArray n') (.tail _ (.head _)) q hq
              · rcases List.mem_cons.mp hp with rfl | hp
                · exact off12 (L1 + 1, oc) (.tail _ (.tail _ (.head _))) q hq
                · rcases List.mem_cons.mp hp with rfl | hp
                  · exact Nat.ne_of_gt (L13 q (.tail _ (List.mem_append_right _ hq)))
                  · exact off12 p (.tail _ (.tail _ (.tail _ hp))) q hq
          · intro c hc
            rcases List.mem_append.mp hc with hc | hc
            · exact hcs2 c hc
            · rw [List.mem_singleton.mp hc]
              exact ⟨c0, c1, c2, c3⟩
          · exact paired_snoc (paired_mono (fun _ _ x => x.mono fun p hp => .tail _ hp) hp2) ⟨a13, k13, u13, v13, rfl, .head _⟩
          · intro p hp
            rcases List.mem_cons.mp hp with rfl | hp
            · exact ⟨Nat.ne_of_gt q1, Nat.ne_of_gt q2, fun q hq => Nat.ne_of_gt (L13 q (.tail _ (List.mem_append_left _ (.tail _ (.tail _ (List.mem_append_right _ (List.mem_append_right _ hq)))))))⟩
            · exact htl2 p hp
        case done2 =>
          intro C D h11 tk11 nx oC cm ys k hCD hlt F11 N11 off11 hns11 hJ
          (try k_fold)
          obtain ⟨cs, tl2, spot2, t2, f1, hcs2, hp2, e3, htl2, hs20, hs21, hj2⟩ := hJ
          subst e3
          refine post_none hCD F11 N11 off11 hns11 (fun h12 F12 N12 hne12 => ?_)
          k_steps
          refine unbrk ?_
          (try k_fold)
          rename_i D' hh' F' N' l1
          have hnef : ∀ p ∈ [(D', tupOf #[.ref D, .str (Str.ofString "n") tk11] 0), (D, listOf ys.toArray k), (sk, sackO bk spot2 t2 n)] ++ (L1 + 1, oc) :: (tl2 ++ (tl ++ rest ++ own)), p.1 ≠ fd := by
            have z1 := (List.forall_mem_cons.mp htall).1
            have z2 := hne12 _ (.tail _ (.head _))
            refine List.forall_mem_append.mpr ⟨List.forall_mem_cons.mpr ⟨Nat.ne_of_gt l1.2.2.1, List.forall_mem_cons.mpr ⟨Ne.symm z2, List.forall_mem_cons.mpr ⟨Ne.symm z1, List.forall_mem_nil _⟩⟩⟩, List.forall_mem_cons.mpr ⟨Nat.ne_of_lt l2.1, List.forall_mem_append.mpr ⟨fun p hp => (htl2 p hp).2.1, List.forall_mem_append.mpr ⟨List.forall_mem_append.mpr ⟨fun p hp => (htl p hp).2, fun p hp => Nat.ne_of_lt (lt_all l2.2.2 p hp)⟩, fun p hp => Ne.symm (hoff _ (.tail _ (.head _)) p hp)⟩⟩⟩⟩
          have hrl : refs.length = css.length := by rw [paired_length hp, List.length_map]
          refine append_led F' (news_up (pre := [_, _, _]) N') hnef (by omega) (fun h14 F14 N14 => ?_)
          (try k_fold)
          k_steps
          have rD : ∀ q ∈ own, D ≠ q.1 := fun q hq => Nat.ne_of_gt (hlt q (.tail _ (.tail _ (.tail _ (List.mem_append_right _ hq)))))
          have rD' : ∀ q ∈ own, D' ≠ q.1 := fun q hq => Nat.ne_of_gt (lt_all l1.2.2.2.2 q (List.mem_append_right _ (List.mem_append_right _ hq)))
          refine ⟨h14, _, fun y => if y = Str.ofString "found" then some (.ref fd) else if y = Str.ofString "turn" then some (Value.int (0 + ↑i) t) else u y, (sk, sackO bk spot2 t2 n) :: (fd, listOf (refs ++ [Value.ref D']).toArray (n' + 1)) :: (L1 + 1, oc) :: (((D', tupOf #[.ref D, .str (Str.ofString "n") tk11] 0) :: (D, listOf ys.toArray k) :: (tl2 ++ tl)) ++ rest), rfl,
            fr_eq F14 (fun y => if_swap (by decide)), news_sub N14 ?_, ?_, css ++ [cs], refs ++ [Value.ref D'], n' + 1, (D', tupOf #[.ref D, .str (Str.ofString "n") tk11] 0) :: (D, listOf ys.toArray k) :: (tl2 ++ tl), spot2, t2, _, by simp [e1], rfl, rfl, ?_, ?_, by omega, by omega, ?_⟩
          · walk_at "my sub"
          · intro q hq p hp
            rcases List.mem_cons.mp hq with rfl | hq
            · exact hoff _ (.head _) p hp
            rcases List.mem_cons.mp hq with rfl | hq
            · exact hoff _ (.tail _ (.head _)) p hp
            rcases List.mem_cons.mp hq with rfl | hq
            · exact hoff _ (.tail _ (.tail _ (.head _))) p hp
            rcases List.mem_cons.mp hq with rfl | hq
            · exact rD' p hp
            rcases List.mem_cons.mp hq with rfl | hq
            · exact rD p hp
            rcases List.mem_append.mp hq with hq | hq
            · rcases List.mem_append.mp hq with hq | hq
              · exact (htl2 q hq).2.2 p hp
              · exact hoff q (.tail _ (.tail _ (.tail _ (List.mem_append_left _ hq)))) p hp
            · exact hoff q (.tail _ (.tail _ (.tail _ (List.mem_append_right _ hq)))) p hp
          · rw [List.map_append]
            exact paired_snoc (paired_mono (fun _ _ x => x.mono fun p hp => .tail _ (.tail _ (List.mem_append_right _ hp))) hp) ⟨D', 0, .ref D, _, _, rfl, .head _, D, k, ys, rfl, .tail _ (.head _), paired_mono (fun _ _ x => x.mono fun p hp => .tail _ (.tail _ (List.mem_append_left _ hp))) hp2⟩
          · intro p hp
            rcases List.mem_cons.mp hp with rfl | hp
            · exact ⟨Nat.ne_of_gt l1.2.1, Nat.ne_of_gt l1.2.2.1⟩
            rcases List.mem_cons.mp hp with rfl | hp
            · exact ⟨Ne.symm (hne12 _ (.head _)), Ne.symm (hne12 _ (.tail _ (.head _)))⟩
            rcases List.mem_append.mp hp with hp | hp
            · exact ⟨(htl2 p hp).1, (htl2 p hp).2.1⟩
            · exact htl p hp
          · intro c hc
            rcases List.mem_append.mp hc with hc | hc
            · exact hcs c hc
            · rw [List.mem_singleton.mp hc]
              refine ⟨fun e => ?_, by omega, hcs2⟩
              rw [e] at f1
              simp only [List.length_nil] at f1
              omega
      case done =>
        intro m₁ nx h7 tk7 hJ F7 N7
        (try k_fold)
        obtain ⟨css, refs, n', tl, spot', t', u, e1, e2, e3, hp, htl, hs0, hs1, hcs⟩ := hJ
        subst e2
        subst e3
        replace F7 : Fr g1 L1 h7 (fun y => if y = Str.ofString "found" then some (.ref fd) else u y) := F7
        replace N7 : News g1 L1 h7 ((sk, sackO bk spot' t' n) :: (fd, listOf (List.toArray refs) n') :: (L1 + 1, oc) :: (tl ++ rest)) := N7
        k_steps
        exact meet ⟨rfl, fd, css.map .named, refs, n', tl, spot', t', _, _, u, rfl, F7, N7, hp, fun p hp => (htl p hp).1, Ne.symm (Nat.ne_of_lt l2.2.1), hs0, by omega, .inr ⟨css, by omega, rfl, hcs⟩⟩
      case hE => with_unfolding_all passes_own
  case tail =>
    intro s2 hR
    obtain ⟨fd', body, refs, n', tl, spot', t', h', tk', u, e1, F', N', hp, htl, hfd, hs0, hs1, hsh⟩ := hR
    have hrl : refs.length ≤ 10 := by
      rw [paired_length hp]
      rcases hsh with ⟨k, hk, e⟩ | ⟨css, hk, e, _⟩
      · rw [e, List.length_replicate]; omega
      · rw [e, List.length_map]; omega
    subst e1
    k_steps
    refine unbrk ?_
    (try k_fold)
    have htall : ∀ p ∈ (fd', listOf (List.toArray refs) n') :: (L1 + 1, oc) :: (tl ++ rest), p.1 ≠ sk := List.forall_mem_cons.mpr ⟨hfd, List.forall_mem_cons.mpr ⟨Nat.ne_of_gt (Nat.lt_succ_of_lt l1.1), List.forall_mem_append.mpr ⟨htl, hsk⟩⟩⟩
    refine' (grab_spec w loose mean mg mb (spot := spot') (rest := (fd', listOf (List.toArray refs) n') :: (L1 + 1, oc) :: (tl ++ rest)) (.tail _ (.tail _ (List.mem_append_right _ hb))) htall (by assumption) hlen hs0 (by omega) (by decide) (by decide)) _ _ _ _ _ _ _ _ _ _ _ _ _ _ _ _ _ (by assumption) (by assumption) (by assumption) (by assumption) (by assumption) (by first | exact rfl | assumption) ?kd6 ?ku6 ?kr6
    case kd6 => first | omega | (dsimp only [ktrTop, Around.deeper, Around.mark, Around.in1]; omega) | exact Nat.le_of_ble_eq_true rfl
    case ku6 => first | omega | (dsimp only [ktrTop, Around.deeper, Around.mark, Around.in1]; omega) | exact Nat.le_of_ble_eq_true rfl
    intro r5 tr5 t5 h5 tk5 r50 r51 F5 N5
    k_steps
    · refine unbrk ?_
      (try k_fold)
      rename_i ha tk6 D6 h6 l6 q7 h7 F7 N7 l7
      refine add_led F7 N7 (.tail _ (.tail _ (.tail _ (.head _)))) (.head _) (by simp; omega) (fun D8 h8 F8 N8 l8 => ?_)
      (try k_fold)
      k_steps
      exact parts_last hret hp htl hfd hs0 hs1 hsh (hne := by
        have z1 := l8 (sk, sackO bk (spot' + 1) t5 n) (.tail _ (.tail _ (.head _)))
        exact ⟨Nat.ne_of_gt z1, Nat.ne_of_gt l7.2.1, Nat.ne_of_gt l6.1, Nat.ne_of_gt (Nat.lt_succ_of_lt l1.1)⟩) (by assumption) (news_up (pre := [_, _, _]) (by assumption))
    · refine unbrk ?_
      (try k_fold)
      rename_i ha q7 h7 F7 N7 l7
      refine eq_nil N7 (.tail _ (.tail _ (.head _))) (.head _) (by walk_at "my room") ?_
      (try k_fold)
      k_steps
      · refine unbrk ?_
        (try k_fold)
        rename_i hr0 tk8 D8 h8 l8 q9 h9 F9 N9 l9
        refine add_led F9 N9 (.tail _ (.tail _ (.tail _ (.tail _ (.head _))))) (.head _) (by simp; omega) (fun D10 h10 F10 N10 l10 => ?_)
        (try k_fold)
        k_steps
        have z1 := l10 (sk, sackO bk (spot' + 1) t5 n) (.tail _ (.tail _ (.tail _ (.head _))))
        exact parts_last hret hp htl hfd hs0 hs1 hsh (hne := ⟨Nat.ne_of_gt z1, Nat.ne_of_gt l9.2.2.1, Nat.ne_of_gt l8.2.1, Nat.ne_of_gt (Nat.lt_succ_of_lt l1.1)⟩) (by assumption) (news_d3' (news_up (pre := [_, _, _, _]) (by assumption)))
      · have hr0 : ¬ refs = [] := by assumption
        refine hret body _ ((q7, listOf ([] : List Value).toArray 0) :: (fd', listOf (List.toArray refs) n') :: (L1 + 1, oc) :: tl) (spot' + 1) t5 _ _ ?_ (by assumption) (news_up (pre := [_]) (by assumption)) ⟨fd', n', refs, rfl, .tail _ (.head _), paired_mono (fun _ _ x => x.mono fun p hp => .tail _ (.tail _ (.tail _ hp))) hp⟩ ?_ (by omega) (by omega)
        · refine ⟨body, [], (List.append_nil _).symm, fun e => hr0 ?_, .inl rfl, hsh⟩
          rw [e] at hp
          cases hp
          rfl
        · exact List.forall_mem_cons.mpr ⟨Nat.ne_of_gt l7.1, List.forall_mem_cons.mpr ⟨hfd, List.forall_mem_cons.mpr ⟨Nat.ne_of_gt (Nat.lt_succ_of_lt l1.1), htl⟩⟩⟩
end
section
set_option maxHeartbeats 8000000 in
theorem has_spec (w : World) (loose : List Str) (mean : ExcName → Option Value) (mg mb : Str → Option Value) {led : Led} {l : Addr} {n : Nat} {vs : List Value} {i : Int} {ti : Tok} {ch : List (Int × Int)}
    (hm : (l, listOf vs.toArray n) ∈ led) (hp : Paired (ChIn led) vs ch) (hch : ch.length ≤ 100) :
    Calls w loose mean mg mb 1 183 [.ref l, .int i ti] led fun h₀ L m s Q =>
      ∀ h' tk', Fr h₀ L h' m → News h₀ L h' led → Q (.bool (ch.any fun c => decide (c.1 ≤ i ∧ i ≤ c.2))) { s with heap := h', toks := tk' } := by
  unfold Calls
  k_fill
  intro dp un gd cn cs a ccd cl outer A₀ base h₀ L m s Q E B F X N T hk hd hu hret
  refine wpAny_call ?_
  k_dflt (refine' code_defC ?k1 ?k2 ?k3 ?k4 ?k5 ?kA ?kF ?kK ?k6 ?k7 ?k8 ?k9 ?kB ?kD ?_ ?c2 ?c3 ?c4; (case kA => exact rfl); (case kF => exact rfl); (case kK => first | exact rfl | assumption); (case k1 => k_asm); (case k2 => k_asm); (case k3 => k_asm); (case k4 => k_asm); (case k5 => k_asm); (case k6 => k_is); (case k7 => k_is); (case k8 => ktr_room); (case k9 => exact BindsTo.of_eq rfl); (case kB => exact rfl); (case kD => decide +kernel); (case c2 => exact rfl); (case c3 => exact rfl); (case c4 => exact rfl); k_whole; intro g1 L1 h1 tk1 cellsY FG1 F1 N1 hY B1 X1 T1 l1; (try k_lt l1); k_cells hY; (try simp only [List.cons_append, List.nil_append] at N1); (try dsimp only); (try k_lift B1); (try k_fold))
  rename_i oc hoc
  refine foldA ?_
  intro fA
  try (have fR : Around.units fA < cLine := by (simp only [fA, Around.deeper]; omega))
  try (have fR1 : Around.units (Around.in1 fA) < cLine := by (simp only [fA, Around.deeper, Around.in1]; omega))
  refine foldE ?_
  intro fE
  (try k_fold)
  k_steps
  refine unbrk ?_
  (try k_fold)
  replace F1 : Fr _ _ _ (fun y => if y = Str.ofString "choices" then some (Value.ref l) else none) := F1
  replace hoc : oc.data = .cell (some (.int i ti)) := hoc
  refine lc_none (cl := [(Str.ofString "index", _)]) rfl rfl (by decide) (fun _ => rfl) ?_
  refine nameX_L F1 rfl ?_
  refine comp_list (vs := vs) (ln := n) rfl (fun j ys nx => nx = (L1 + 1, oc) ::  led ∧ ys.length = ((ch.take j).filter fun c => decide (c.1 ≤ i ∧ i ≤ c.2)).length) ?hl ?hlen F1 N1 ⟨rfl, rfl⟩ (by decide) rfl ?turn ?done
  case hl => rintro _ _ _ ⟨rfl, _⟩; exact .tail _ hm
  case hlen => 
    rintro j ys nx ⟨_, h⟩
    rw [h]
    exact Nat.le_trans (List.length_filter_le _ _) (Nat.le_trans (List.length_take_le' ..) (by omega))
  case turn =>
    rintro C D j v h tk nx oC cm ys k ow Bk hv F2 N2 off2 hns2 ⟨rfl, hlen⟩
    obtain ⟨c, hc, a1, n1, t1, u1, rfl, hm1⟩ := paired_get hp hv
    have hta := N2 _ (blk_nx (.tail _ hm1))
    refine bind_pair rfl Bk rfl rfl rfl F2 N2 off2 hns2 hta.1 rfl rfl (fun h3 oC3 tk3 F3 N3 off3 hns3 => ?_)
    refine ⟨oC3, _, hns3, ?_⟩
    have hcell : (L1 + 1, oc) ∈ (L1 + 1, oc) ::  led ++ blk C oC3 D ys k ow := blk_nx (.head _)
    refine wpAny_tests_one ?_
    k_steps
    all_goals (refine ⟨h3, _, _, rfl, F3, N3, off3, rfl, ?_⟩; rw [take_succ_filter _ _ _ _ hc]; first | (rw [if_pos (by simp; omega)]; simp [hlen]; done) | (rw [if_neg (by simp; omega)]; simp [hlen]; done))
  case done =>
    rintro C D h tk nx oC cm ys k hCD hlt F2 N2 off2 hns2 ⟨rfl, hlen⟩
    rw [List.take_of_length_le (by have := paired_length hp; omega)] at hlen
    refine post_none hCD F2 N2 off2 hns2 (fun h3 F3 N3 hne => ?_)
    k_steps
    refine unbrk ?_
    (with_reducible rename News _ _ _ _ => N5)
    refine ne_nil N5 (.tail _ (.head _)) (.head _) (by show un + 3 < _; omega) ?_
    have hany : decide (ys ≠ []) = ch.any fun c => decide (c.1 ≤ i ∧ i ≤ c.2) := by
      cases hb : ch.any fun c => decide (c.1 ≤ i ∧ i ≤ c.2) with
      | true =>
        obtain ⟨c, hc, hp⟩ := List.any_eq_true.mp hb
        have h9 : c ∈ ch.filter fun c => decide (c.1 ≤ i ∧ i ≤ c.2) := List.mem_filter.mpr ⟨hc, hp⟩
        have h8 := List.length_pos_of_mem h9
        refine decide_eq_true fun e => ?_
        rw [e] at hlen
        simp only [List.length_nil] at hlen
        omega
      | false =>
        have h9 : (ch.filter fun c => decide (c.1 ≤ i ∧ i ≤ c.2)) = [] := List.filter_eq_nil_iff.mpr fun c hc hp => by
          have := List.any_eq_false.mp hb c hc
          exact this hp
        rw [h9] at hlen
        refine decide_eq_false fun hne => hne (List.length_eq_zero_iff.mp hlen)
    rw [hany]
    k_steps
    exact hret _ _ (by assumption) (news_sub (by assumption) fun p hp => .tail _ (.tail _ (.tail _ hp)))
end
section
def GIn (led : Led) (v : Value) : Option (Int × Int) → Prop
  | none => v = .none
  | some b => ChIn led v b
def Pt.has (i : Int) : Pt → Bool
  | .named cs => cs.any fun c => decide (c.1 ≤ i ∧ i ≤ c.2)
  | _ => false
def toldIdx (ps : List Pt) : List Int := ((List.range 15).map fun (k : Nat) => -3 + (k : Int)).filter fun i => ps.any (Pt.has i)
def toldN (ps : List Pt) (g : Option (Int × Int)) (low : Int) : Option (Int × Int) :=
  match ps with
  | .pos :: _ => some ((g.map (·.1)).getD low, (g.map (·.1)).getD low + ps.length - 1)
  | .named cs :: _ => match toldIdx ps with
    | [] => cs.head?
    | i :: is => some (i, (i :: is).getLast (by simp))
  | _ => none
def toldB (ps : List Pt) (g : Option (Int × Int)) (low : Int) : Option (Int × Int) :=
  match ps.getLast? with
  | some .others => g
  | _ => toldN ps g low

theorem GIn.mono {led led' : Led} {v : Value} {g : Option (Int × Int)} (h : GIn led v g) (hs : ∀ p ∈ led, p ∈ led') : GIn led' v g := by
  cases g with
  | none => exact h
  | some b => exact ChIn.mono h hs
theorem toldB_oth {ps : List Pt} {g : Option (Int × Int)} {low : Int} {n : Nat} {p : Pt} (hn : n = ps.length) (hp : ps[n - 1]? = some p) (h : p.isOth = true) : toldB ps g low = g := by
  have : p = .others := by cases p <;> first | rfl | (cases h)
  subst this
  unfold toldB
  rw [List.getLast?_eq_getElem?, ← hn, hp]
theorem toldB_not {ps : List Pt} {g : Option (Int × Int)} {low : Int} {n : Nat} {p : Pt} (hn : n = ps.length) (hp : ps[n - 1]? = some p) (h : p.isOth = false) : toldB ps g low = toldN ps g low := by
  unfold toldB
  rw [List.getLast?_eq_getElem?, ← hn, hp]
  cases p <;> first | rfl | (cases h)

theorem toldN_nil {ps r : List Pt} {cs : List (Int × Int)} {g : Option (Int × Int)} {low : Int} (h : ps = .named cs :: r) (hi : toldIdx ps = []) : toldN ps g low = cs.head? := by
  subst h
  show (match toldIdx (.named cs :: r) with | [] => cs.head? | i :: is => some (i, (i :: is).getLast (by simp))) = _
  rw [hi]
theorem toldN_cons {ps r : List Pt} {cs : List (Int × Int)} {g : Option (Int × Int)} {low i : Int} {is : List Int} (h : ps = .named cs :: r) (hi : toldIdx ps = i :: is) : toldN ps g low = some (i, (i :: is).getLast (by simp)) := by
  subst h
  show (match toldIdx (.named cs :: r) with | [] => cs.head? | i :: is => some (i, (i :: is).getLast (by simp))) = _
  rw [hi]
theorem any_len {α : Type} {f : α → Bool} {ps : List α} {ys : List Value} (h : ys.length = (ps.filter f).length) : decide (ys ≠ []) = ps.any f := by
  cases hb : ps.any f with
  | true =>
    obtain ⟨c, hc, hp⟩ := List.any_eq_true.mp hb
    have h8 := List.length_pos_of_mem (List.mem_filter.mpr ⟨hc, hp⟩)
    refine decide_eq_true fun e => ?_
    rw [e] at h
    simp only [List.length_nil] at h
    omega
  | false =>
    have h9 : ps.filter f = [] := List.filter_eq_nil_iff.mpr fun c hc hp => List.any_eq_false.mp hb c hc hp
    rw [h9] at h
    exact decide_eq_false fun hne => hne (List.length_eq_zero_iff.mp h)
theorem paired_app {α β : Type} {F : α → β → Prop} {l₃ : List α} {l₄ : List β} (k : Paired F l₃ l₄) : ∀ {l₁ : List α} {l₂ : List β}, Paired F l₁ l₂ → Paired F (l₁ ++ l₃) (l₂ ++ l₄)
  | _, _, .nil => k
  | _, _, .cons h t => .cons h (paired_app k t)
theorem ret_pair {h₀ h' : Heap} {L D c : Addr} {m : Str → Option Value} {s : Shared} {Q : Value → Shared → Prop} {led : Led} {oc : Obj} {x y : Int} {t u : Tok} {k tk' : Nat}
    (hret : ∀ v tl' h' tk', Fr h₀ L h' m → News h₀ L h' (tl' ++ led) → GIn (tl' ++ led) v (some (x, y)) → Q v { s with heap := h', toks := tk' })
    (F : Fr h₀ L h' m) (N : News h₀ L h' ((D, tupOf #[.int x t, .int y u] k) :: (c, oc) :: led)) : Q (.ref D) { s with heap := h', toks := tk' } :=
  hret _ [(D, tupOf #[.int x t, .int y u] k), (c, oc)] _ _ F N ⟨D, k, t, u, rfl, .head _⟩
set_option maxHeartbeats 8000000 in
theorem told_spec (w : World) (loose : List Str) (mean : ExcName → Option Value) (mg mb : Str → Option Value) {led : Led} {pl : Addr} {np : Nat} {refs : List Value} {ps : List Pt} {gv : Value} {g : Option (Int × Int)} {low : Int} {tl : Tok}
    (hm : (pl, listOf refs.toArray np) ∈ led) (hp : Paired (PtIn led) refs ps) (hok : PartsOk ps) (hg : GIn led gv g) :
    Calls w loose mean mg mb 4 188 [.ref pl, gv, .int low tl] led fun h₀ L m s Q =>
      ∀ v tl' h' tk', Fr h₀ L h' m → News h₀ L h' (tl' ++ led) → GIn (tl' ++ led) v (toldB ps g low) → Q v { s with heap := h', toks := tk' } := by
  unfold Calls
  k_fill
  intro dp un gd cn cs a ccd cl outer A₀ base h₀ L m s Q E B F X N T hk hd hu hret
  refine wpAny_call ?_
  k_dflt (refine' code_defC ?k1 ?k2 ?k3 ?k4 ?k5 ?kA ?kF ?kK ?k6 ?k7 ?k8 ?k9 ?kB ?kD ?_ ?c2 ?c3 ?c4; (case kA => exact rfl); (case kF => exact rfl); (case kK => first | exact rfl | assumption); (case k1 => k_asm); (case k2 => k_asm); (case k3 => k_asm); (case k4 => k_asm); (case k5 => k_asm); (case k6 => k_is); (case k7 => k_is); (case k8 => ktr_room); (case k9 => exact BindsTo.of_eq rfl); (case kB => exact rfl); (case kD => decide +kernel); (case c2 => exact rfl); (case c3 => exact rfl); (case c4 => exact rfl); k_whole; intro g1 L1 h1 tk1 cellsY FG1 F1 N1 hY B1 X1 T1 l1; (try k_lt l1); k_cells hY; (try simp only [List.cons_append, List.nil_append] at N1); (try dsimp only); (try k_lift B1); (try k_fold))
  rename_i oc hoc
  refine foldA ?_
  intro fA
  try (have fR : Around.units fA < cLine := by (simp only [fA, Around.deeper]; omega))
  try (have fR1 : Around.units (Around.in1 fA) < cLine := by (simp only [fA, Around.deeper, Around.in1]; omega))
  refine foldE ?_
  intro fE
  (try k_fold)
  have hbs : BrkSub := ⟨⟩
  replace F1 : Fr g1 L1 h1 (fun y => if y = Str.ofString "low" then some (.int low tl) else if y = Str.ofString "given" then some gv else none) := F1
  replace hoc : oc.data = .cell (some (.ref pl)) := hoc
  obtain ⟨body, tail, rfl, hne, htail, hbody⟩ := hok
  have hlp : 0 < (body ++ tail).length := List.length_pos_iff.mpr hne
  have hll := paired_length hp
  obtain ⟨plast, hpl⟩ : ∃ p, (body ++ tail)[refs.length - 1]? = some p := ⟨_, List.getElem?_eq_getElem (by omega)⟩
  obtain ⟨vl, hvl, a9, n9, vc9, x9, t9, rfl, hm9, hc9⟩ := paired_get' hp hpl
  k_steps
  refine unbrk ?_
  (try k_fold)
  refine sub_last N1 (.tail _ hm) hvl ?_
  (try k_fold)
  k_steps
  refine unbrk ?_
  (try k_fold)
  refine sub_tup (its := [vc9, _]) N1 (.tail _ hm9) (by decide) (by decide) rfl ?_
  (try k_fold)
  k_steps
  refine cho_eq N1 (hc9.mono fun p hp => .tail _ hp) (by walk_at "my room") ?_
  (try k_fold)
  k_steps
  · refine hret _ [(L1 + 1, oc)] _ _ (by assumption) (by assumption) ?_
    rw [toldB_oth hll hpl (by assumption)]
    exact hg.mono fun p hp => .tail _ hp
  · refine unbrk ?_
    (try k_fold)
    have hnoth : plast.isOth = false := by assumption
    have ht0 : tail = [] := by
      rcases htail with h | h
      · exact h
      · subst h
        rw [show refs.length - 1 = body.length by rw [hll]; simp] at hpl
        rw [List.getElem?_append_right (Nat.le_refl _)] at hpl
        simp at hpl
        subst hpl
        cases hnoth
    subst ht0
    rw [List.append_nil] at hp hlp hll hpl hret
    rw [toldB_not hll hpl hnoth] at hret
    have hm1 : (pl, listOf refs.toArray np) ∈ (L1 + 1, oc) :: led := .tail _ hm
    obtain ⟨pfst, hpf⟩ : ∃ p, body[0]? = some p := ⟨_, List.getElem?_eq_getElem (by omega)⟩
    obtain ⟨vf, hvf, a8, n8, vc8, x8, t8, rfl, hm8, hc8⟩ := paired_get' hp hpf
    refine sub_at N1 (.tail _ hm) (by decide) (by decide) hvf ?_
    (try k_fold)
    k_steps
    refine unbrk ?_
    (try k_fold)
    refine sub_tup (its := [vc8, _]) N1 (.tail _ hm8) (by decide) (by decide) rfl ?_
    (try k_fold)
    rcases hbody with ⟨k, hk5, rfl⟩ | ⟨css, hcl, rfl, hcs⟩
    · obtain ⟨k, rfl⟩ : ∃ k', k = k' + 1 := ⟨k - 1, by simp at hlp; omega⟩
      obtain rfl : .pos = pfst := by simpa using hpf
      obtain rfl : vc8 = .none := hc8
      have hrl : refs.length = k + 1 := by simpa using hll
      have hkl : ((List.replicate (k + 1) Pt.pos).length : Int) = (refs.length : Int) := by rw [hll]
      cases g with
      | none => 
        obtain rfl : gv = .none := hg
        rw [show toldN (List.replicate (k + 1) .pos) none low = some (low, low + (refs.length : Int) - 1) by
          show some (low, low + ((List.replicate (k + 1) Pt.pos).length : Int) - 1) = _
          rw [hkl]] at hret
        k_steps
        exact ret_pair hret (by assumption) (by assumption)
      | some b => 
        obtain ⟨ag, ng, tg, ug, rfl, hmg⟩ := hg
        rw [show toldN (List.replicate (k + 1) .pos) (some b) low = some (b.1, b.1 + (refs.length : Int) - 1) by
          show some (b.1, b.1 + ((List.replicate (k + 1) Pt.pos).length : Int) - 1) = _
          rw [hkl]] at hret
        k_steps
        refine unbrk ?_
        (try k_fold)
        refine sub_tup (its := [_, _]) (by assumption) (.tail _ hmg) (by decide) (by decide) rfl ?_
        (try k_fold)
        k_steps
        exact ret_pair hret (by assumption) (by assumption)
    · obtain ⟨cs0, css, rfl⟩ : ∃ a b, css = a :: b := by
        cases css with
        | nil => simp at hlp
        | cons a b => exact ⟨a, b, rfl⟩
      obtain rfl : .named cs0 = pfst := by simpa using hpf
      obtain ⟨l8, nl8, vs8, rfl, hml8, hpv8⟩ := hc8
      have hrl : refs.length = (css.length + 1) := by simpa using hll
      have hrl3 : refs.length ≤ 3 := by rw [hrl]; simpa using hcl
      have hpl3 : ((cs0 :: css).map Pt.named).length ≤ 3 := by rw [← hll]; exact hrl3
      generalize hps : (cs0 :: css).map Pt.named = ps at *
      k_steps
      refine unbrk ?_
      (try k_fold)
      refine lc_use (cl := [(Str.ofString "parts", L1 + 1)]) rfl rfl rfl (by decide) (fun _ => rfl) ?_
      k_steps
      refine unbrk ?_
      (try k_fold)
      rename_i h10 tk10 _ _ _ hr10 F10 N10 _
      refine comp_rangeC (n := 15) (x := Str.ofString "index") rfl hr10 (by decide) (by decide) (fun c i ys nx => ∃ (oc' : Obj) (v0 : Option Value), nx = (c, oc') :: (L1 + 1, oc) :: led ∧ oc'.data = .cell v0 ∧ L1 + 1 < c ∧ (∀ p ∈ led, p.1 < c) ∧ i ≤ 15 ∧ Paired IntV ys (((List.range i).map fun (k : Nat) => -3 + (k : Int)).filter fun i => ps.any (Pt.has i))) ?hlen F10 N10 ?hj (fun _ => rfl) (fun _ => rfl) rfl ?turn ?done
      case hlen =>
        intro c i ys nx hJ
        obtain ⟨oc', v0, e3, e4, _, _, hi15, e5⟩ := hJ
        have := paired_length e5
        rw [this]
        exact Nat.le_trans (List.length_filter_le _ _) (by simp; omega)
      case hj =>
        intro c hc
        exact ⟨_, none, rfl, rfl, hc _ (.head _), fun p hp => hc p (.tail _ hp), by decide, .nil⟩
      case turn =>
        intro c C D i ti h11 tk11 nx oC cm ys k ow Bk hi15 F11 N11 off11 hns11 hJ
        (try k_fold)
        obtain ⟨oc', v0, e3, e4, hc1, hc2, hi15, e5⟩ := hJ
        subst e3
        refine bind_cell rfl rfl rfl F11 N11 e4 ?hcne (fun h12 oc12 hd12 F12 N12 => ?_)
        case hcne =>
          intro p hp
          rcases List.mem_append.mp hp with hp | hp
          · rcases List.mem_cons.mp hp with rfl | hp
            · exact Nat.ne_of_lt hc1
            · exact Nat.ne_of_lt (hc2 p hp)
          · exact Ne.symm (off11 (c, oc') (.head _) p hp)
        replace N12 : News g1 L1 h12 (((c, oc12) :: (L1 + 1, oc) :: led) ++ blk C oC D ys k ow) := N12
        have off12 : Off ((c, oc12) :: (L1 + 1, oc) :: led) (blk C oC D ys k ow) := fun q hq p hp => by
          rcases List.mem_cons.mp hq with rfl | hq
          · exact off11 (c, oc') (.head _) p hp
          · exact off11 q (.tail _ hq) p hp
        refine ⟨oC, cm, hns11, ?_⟩
        refine wpAny_tests_one ?_
        k_steps
        refine unbrk ?_
        (try k_fold)
        refine lc_none (cl := [(Str.ofString "index", c)]) rfl rfl (by decide) (fun _ => rfl) ?_
        refine cname_C N12 (List.mem_append_left _ (.tail _ (.head _))) hoc rfl ?_ rfl rfl (by decide)
        refine comp_list (vs := refs) (ln := np) rfl (fun j ys2 nx => nx = ((c, oc12) :: (L1 + 1, oc) :: led) ++ blk C oC D ys k ow ∧ ys2.length = ((ps.take j).filter (Pt.has (-3 + (i : Int)))).length) ?hl2 ?hlen2 F12 N12 ⟨rfl, by simp⟩ (by decide) rfl ?turn2 ?done2
        case hl2 =>
          intro j ys2 nx hJ
          rw [hJ.1]
          exact List.mem_append_left _ (.tail _ (.tail _ hm))
        case hlen2 => 
          intro j ys2 nx hJ
          rw [hJ.2]
          have h1 := List.length_filter_le (Pt.has (-3 + (i : Int))) (ps.take j)
          have h2 : (ps.take j).length ≤ ps.length := by rw [List.length_take]; exact Nat.min_le_right _ _
          omega
        case turn2 =>
          intro C2 D2 j v h13 tk13 nx oC2 cm2 ys2 k2 ow2 Bk2 hv F13 N13 off13 hns13 hJ2
          (try k_fold)
          obtain ⟨e6, hlen2⟩ := hJ2
          subst e6
          obtain ⟨pj, hpj, a1, n1, vc1, x1, t1, rfl, hm1, hc1⟩ := paired_get hp hv
          obtain ⟨csj, rfl, hcsj⟩ : ∃ csj, pj = .named csj ∧ csj.length ≤ 2 := by
            rw [← hps] at hpj
            have := List.mem_of_getElem? hpj
            obtain ⟨csj, h1, rfl⟩ := List.mem_map.mp this
            exact ⟨csj, rfl, (hcs csj h1).2.1⟩
          obtain ⟨lj, nj, vsj, rfl, hmj, hpj2⟩ := hc1
          have hin : ∀ p ∈ led, p ∈ (((c, oc12) :: (L1 + 1, oc) :: led) ++ blk C oC D ys k ow) := fun p hp => List.mem_append_left _ (.tail _ (.tail _ hp))
          have hta := N13 _ (blk_nx (hin _ hm1))
          refine bind_pair rfl Bk2 rfl rfl rfl F13 N13 off13 hns13 hta.1 rfl rfl (fun h14 oC14 tk14 F14 N14 off14 hns14 => ?_)
          refine ⟨oC14, _, hns14, ?_⟩
          have hcell : (c, oc12) ∈ (((c, oc12) :: (L1 + 1, oc) :: led) ++ blk C oC D ys k ow) ++ blk C2 oC14 D2 ys2 k2 ow2 := blk_nx (List.mem_append_left _ (.head _))
          refine wpAny_tests_one ?_
          k_steps
          refine unbrk ?_
          (try k_fold)
          refine' (has_spec w loose mean mg mb (led := ((((c, oc12) :: (L1 + 1, oc) :: led) ++ blk C oC D ys k ow) ++ blk C2 oC14 D2 ys2 k2 ow2)) (List.mem_append_left _ (hin _ hmj)) (paired_mono (fun _ _ x => x.mono fun p hp => List.mem_append_left _ (hin p hp)) hpj2) (by omega)) _ _ _ _ _ _ _ _ _ _ _ _ _ _ _ _ _ (by assumption) (by assumption) (by assumption) (N14) (by assumption) (by first | exact rfl | assumption) ?kd1 ?ku1 ?kr1
          case kd1 => first | omega | (dsimp only [ktrTop, Around.deeper, Around.mark, Around.in1]; omega) | exact Nat.le_of_ble_eq_true rfl
          case ku1 => first | omega | (dsimp only [ktrTop, Around.deeper, Around.mark, Around.in1]; omega) | exact Nat.le_of_ble_eq_true rfl
          intro h15 tk15 F15 N15
          k_steps
          · refine ⟨h15, _, _, rfl, F15, N15, off14, rfl, ?_⟩
            rw [take_succ_filter _ _ _ _ hpj, if_pos (by assumption)]
            simp [hlen2]
          · refine ⟨h15, _, _, rfl, F15, N15, off14, rfl, ?_⟩
            rw [take_succ_filter _ _ _ _ hpj, if_neg (Bool.eq_false_iff.mp (by assumption))]
            simp [hlen2]
        case done2 =>
          intro C2 D2 h13 tk13 nx oC2 cm2 ys2 k2 hCD2 hlt2 F13 N13 off13 hns13 hJ2
          (try k_fold)
          obtain ⟨e6, hlen2⟩ := hJ2
          subst e6
          refine post_none hCD2 F13 N13 off13 hns13 (fun h14 F14 N14 hne14 => ?_)
          k_steps
          refine unbrk ?_
          (try k_fold)
          rename_i q15 h15 F15 N15 l15
          refine ne_nil N15 (.tail _ (.head _)) (.head _) (by walk_at "my room") ?_
          (try k_fold)
          rw [any_len (f := Pt.has (-3 + (i : Int))) (ps := ps) (by rw [hlen2, List.take_of_length_le (Nat.le_of_eq hll.symm)])]
          have hcell2 : (c, oc12) ∈ (q15, listOf ([] : List Value).toArray 0) :: (D2, listOf ys2.toArray k2) :: (((c, oc12) :: (L1 + 1, oc) :: led) ++ blk C oC D ys k ow) := .tail _ (.tail _ (List.mem_append_left _ (.head _)))
          k_steps
          · refine ⟨h15, _, _, rfl, F15, news_d1 (news_d1 N15), off12, oc12, _, rfl, hd12, hc1, hc2, by omega, ?_⟩
            rw [List.range_succ, List.map_append, List.filter_append]
            refine paired_app ?_ e5
            rw [List.map_cons, List.map_nil, List.filter_cons_of_pos (by assumption)]
            exact .cons ⟨_, rfl⟩ .nil
          · refine ⟨h15, _, _, rfl, F15, news_d1 (news_d1 N15), off12, oc12, _, rfl, hd12, hc1, hc2, by omega, ?_⟩
            rw [List.range_succ, List.map_append, List.filter_append, List.map_cons, List.map_nil, List.filter_cons_of_neg (Bool.eq_false_iff.mp (by assumption)), List.filter_nil, List.append_nil]
            exact e5
      case done =>
        intro c C D h11 tk11 nx oC cm ys k hCD hlt F11 N11 off11 hns11 hJ
        (try k_fold)
        obtain ⟨oc', v0, e3, e4, hc1, hc2, hi15, e5⟩ := hJ
        subst e3
        refine post_use rfl rfl hCD F11 N11 off11 hns11 (fun h12 tk12 F12 N12 hne12 => ?_)
        k_steps
        refine unbrk ?_
        (try k_fold)
        rename_i q15 h15 F15 N15 l15
        refine eq_nil N15 (.tail _ (.head _)) (.head _) (by walk_at "my room") ?_
        (try k_fold)
        replace F15 : Fr g1 L1 h15 _ := F15
        replace N15 : News g1 L1 h15 _ := N15
        k_steps
        · have hys : ys = [] := by assumption
          subst hys
          have hidx : toldIdx ps = [] := by
            generalize hz : toldIdx ps = z
            rw [show List.filter (fun i => ps.any (Pt.has i)) (List.map (fun (k : Nat) => -3 + (k : Int)) (List.range 15)) = z from hz] at e5
            cases e5
            rfl
          obtain ⟨hc0, hc2', _⟩ := hcs cs0 (.head _)
          obtain ⟨c0, cs0', rfl⟩ : ∃ a b, cs0 = a :: b := by
            cases cs0 with
            | nil => exact absurd rfl hc0
            | cons a b => exact ⟨a, b, rfl⟩
          obtain ⟨v80, hv80, a7, n7, t7, u7, rfl, hm7⟩ := paired_get' hpv8 (show (c0 :: cs0')[0]? = some c0 from rfl)
          rw [toldN_nil hps.symm hidx] at hret
          refine unbrk ?_
          (try k_fold)
          refine sub_at N15 (.tail _ (.tail _ (.tail _ (.tail _ hm)))) (by decide) (by decide) hvf ?_
          (try k_fold)
          k_steps
          refine unbrk ?_
          (try k_fold)
          refine sub_tup (its := [_, _]) N15 (.tail _ (.tail _ (.tail _ (.tail _ hm8)))) (by decide) (by decide) rfl ?_
          (try k_fold)
          k_steps
          refine unbrk ?_
          (try k_fold)
          refine sub_at N15 (.tail _ (.tail _ (.tail _ (.tail _ hml8)))) (by decide) (by decide) hv80 ?_
          (try k_fold)
          k_steps
          exact hret _ [(q15, _), (D, _), (c, _), (L1 + 1, _)] _ _ (by assumption) (by assumption) ⟨a7, n7, t7, u7, rfl, .tail _ (.tail _ (.tail _ (.tail _ hm7)))⟩
        · have hys : ¬ ys = [] := by assumption
          obtain ⟨i0, is, hidx⟩ : ∃ a b, toldIdx ps = a :: b := by
            cases hz : toldIdx ps with
            | nil =>
              rw [show List.filter (fun i => ps.any (Pt.has i)) (List.map (fun (k : Nat) => -3 + (k : Int)) (List.range 15)) = [] from hz] at e5
              cases e5
              exact absurd rfl hys
            | cons a b => exact ⟨a, b, rfl⟩
          rw [show List.filter (fun i => ps.any (Pt.has i)) (List.map (fun (k : Nat) => -3 + (k : Int)) (List.range 15)) = i0 :: is from hidx] at e5
          have hylen := paired_length e5
          obtain ⟨v80, hv80, t80, rfl⟩ := paired_get' e5 (show (i0 :: is)[0]? = some i0 from rfl)
          obtain ⟨v81, hv81, t81, rfl⟩ := paired_get' e5 (show (i0 :: is)[ys.length - 1]? = some ((i0 :: is).getLast (by simp)) by rw [hylen, ← List.getLast?_eq_getElem?, List.getLast?_eq_some_getLast])
          rw [toldN_cons hps.symm hidx] at hret
          refine unbrk ?_
          (try k_fold)
          refine sub_at N15 (.tail _ (.head _)) (by decide) (by decide) hv80 ?_
          (try k_fold)
          k_steps
          refine unbrk ?_
          (try k_fold)
          refine sub_last N15 (.tail _ (.head _)) hv81 ?_
          (try k_fold)
          k_steps
          refine hret _ [(_, _), (q15, _), (D, _), (c, _), (L1 + 1, _)] _ _ (by assumption) (by assumption) ⟨_, _, _, _, rfl, .head _⟩
end
section
def nbStep (f : Option (Int × Int)) (c : Int × Int) : Option (Int × Int) :=
  match f with
  | none => some c
  | some b => if b.2 < b.1 ∧ c.1 ≤ c.2 then some c else if c.1 ≤ c.2 then some (if c.1 < b.1 then c.1 else b.1, if c.2 > b.2 then c.2 else b.2) else some b
def nbFold (css : List (List (Int × Int))) : Option (Int × Int) := css.foldl (fun f cs => cs.foldl nbStep f) none

def NbJ (led own : Led) (f : Option (Int × Int)) (m₂ : Str → Option Value) (nx : Led) : Prop :=
  ∃ (fv : Value) (tl2 : Led), m₂ (Str.ofString "found") = some fv ∧ nx = (tl2 ++ led) ++ own ∧ (∀ q ∈ tl2, ∀ p ∈ own, q.1 ≠ p.1) ∧ GIn (tl2 ++ led) fv f
theorem nb_new {h₀ h' : Heap} {L D : Addr} {led own own2 tl2 : Led} {f : Option (Int × Int)} {m' : Str → Option Value} {s : Shared} {Q : Flow → Shared → Prop} {x y : Int} {t u : Tok} {n tk : Nat} (F : Fr h₀ L h' m') (hm : m' (Str.ofString "found") = some (.ref D))
    (N : News h₀ L h' ((D, tupOf #[.int x t, .int y u] n) :: (((tl2 ++ led) ++ own) ++ own2))) (l : ∀ p ∈ ((tl2 ++ led) ++ own) ++ own2, p.1 < D) (hoff2 : ∀ q ∈ (tl2 ++ led) ++ own, ∀ p ∈ own2, q.1 ≠ p.1) (e3 : ∀ q ∈ tl2, ∀ p ∈ own, q.1 ≠ p.1)
    (hf : f = some (x, y)) : TurnOut h₀ L own2 (NbJ led own f) s Q .next { s with heap := h', toks := tk } := by
  refine ⟨h', tk, m', (((D, tupOf #[.int x t, .int y u] n) :: tl2) ++ led) ++ own, rfl, F, N, ?_, .ref D, (D, tupOf #[.int x t, .int y u] n) :: tl2, hm, rfl, ?_, hf ▸ ⟨D, n, t, u, rfl, .head _⟩⟩
  · intro q hq p hp
    rcases List.mem_cons.mp hq with rfl | hq
    · exact Nat.ne_of_gt (l p (List.mem_append_right _ hp))
    · exact hoff2 q hq p hp
  · intro q hq p hp
    rcases List.mem_cons.mp hq with rfl | hq
    · exact Nat.ne_of_gt (l p (List.mem_append_left _ (List.mem_append_right _ hp)))
    · exact e3 q hq p hp
theorem nb_same {h₀ h' : Heap} {L : Addr} {led own own2 tl2 : Led} {f : Option (Int × Int)} {m' : Str → Option Value} {s : Shared} {Q : Flow → Shared → Prop} {fv : Value} {tk : Nat} (F : Fr h₀ L h' m') (hm : m' (Str.ofString "found") = some fv)
    (N : News h₀ L h' (((tl2 ++ led) ++ own) ++ own2)) (hoff2 : ∀ q ∈ (tl2 ++ led) ++ own, ∀ p ∈ own2, q.1 ≠ p.1) (e3 : ∀ q ∈ tl2, ∀ p ∈ own, q.1 ≠ p.1)
    (hf : GIn (tl2 ++ led) fv f) : TurnOut h₀ L own2 (NbJ led own f) s Q .next { s with heap := h', toks := tk } :=
  ⟨h', tk, m', _, rfl, F, N, hoff2, fv, tl2, hm, rfl, e3, hf⟩

set_option maxHeartbeats 8000000 in
theorem named_spec (w : World) (loose : List Str) (mean : ExcName → Option Value) (mg mb : Str → Option Value) {led : Led} {pl : Addr} {np : Nat} {refs : List Value} {css : List (List (Int × Int))}
    (hm : (pl, listOf refs.toArray np) ∈ led) (hp : Paired (PtIn led) refs (css.map .named)) :
    Calls w loose mean mg mb 1 102 [.ref pl] led fun h₀ L m s Q =>
      ∀ v tl' h' tk', Fr h₀ L h' m → News h₀ L h' (tl' ++ led) → GIn (tl' ++ led) v (nbFold css) → Q v { s with heap := h', toks := tk' } := by
  unfold Calls
  k_fill
  intro dp un gd cn cs a ccd cl outer A₀ base h₀ L m s Q E B F X N T hk hd hu hret
  refine wpAny_call ?_
  k_dflt (refine' code_def ?k1 ?k2 ?k3 ?k4 ?k5 ?kA ?kF ?kK ?k6 ?k7 ?k8 ?k9 ?kB ?_ ?c2 ?c3 ?c4 ?c5; (case kA => exact rfl); (case kF => exact rfl); (case kK => first | exact rfl | assumption); (case k1 => k_asm); (case k2 => k_asm); (case k3 => k_asm); (case k4 => k_asm); (case k5 => k_asm); (case k6 => k_is); (case k7 => k_is); (case k8 => ktr_room); (case k9 => exact BindsTo.of_eq rfl); (case c5 => decide); (case kB => exact locs rfl); (case c2 => exact rfl); (case c3 => exact rfl); (case c4 => exact rfl); k_whole; intro g1 L1 h1 FG1 F1 N1 B1 X1 T1; (try dsimp only); (try k_lift B1); (try k_fold))
  refine foldA ?_
  intro fA
  try (have fR : Around.units fA < cLine := by (simp only [fA, Around.deeper]; omega))
  try (have fR1 : Around.units (Around.in1 fA) < cLine := by (simp only [fA, Around.deeper, Around.in1]; omega))
  refine foldE ?_
  intro fE
  (try k_fold)
  have hbs : BrkSub := ⟨⟩
  replace F1 : Fr g1 L1 h1 (fun y => List.lookup y [(Str.ofString "parts", Value.ref pl)]) := F1
  k_steps
  refine unbrk ?_
  (try k_fold)
  refine wpAny_For (hs := fun _ => rfl) ?_
  k_steps
  refine unbrk ?_
  (try k_fold)
  refine for_list (l := pl) (vs := refs) (ln := np) (fun i m₁ nx => ∃ (fv : Value) (tl' : Led), m₁ (Str.ofString "found") = some fv ∧ nx = tl' ++ led ∧ GIn nx fv (nbFold (css.take i))) rfl (by assumption) (by assumption) ?hl ?hj ?turn ?done ?hE
  case hE => with_unfolding_all passes_own
  case hl =>
    intro i m₁ nx hJ
    obtain ⟨fv, tl', e1, e2, e3⟩ := hJ
    rw [e2]
    exact List.mem_append_right _ hm
  case hj => exact ⟨.none, [], rfl, rfl, rfl⟩
  case turn =>
    intro i v m₁ nx h7 tk7 own hv hoff hJ F7 N7
    (try k_fold)
    obtain ⟨fv, tl', e1, e2, e3⟩ := hJ
    subst e2
    obtain ⟨pj, hpj, a1, n1, vc1, x1, t1, rfl, hm1, hc1⟩ := paired_get hp hv
    obtain ⟨csj, hcj, rfl⟩ : ∃ csj, css[i]? = some csj ∧ pj = .named csj := by
      rw [List.getElem?_map] at hpj
      cases hq : css[i]? with
      | none => rw [hq] at hpj; cases hpj
      | some csj => rw [hq] at hpj; cases hpj; exact ⟨csj, rfl, rfl⟩
    obtain ⟨lj, nj, vsj, rfl, hmj, hpj2⟩ := hc1
    refine assign_pair rfl rfl rfl rfl F7 N7 (List.mem_append_left _ (List.mem_append_right _ hm1)) (fun h8 tk8 F8 N8 => ?_)
    (try k_fold)
    replace F8 : Fr g1 L1 h8 _ := F8
    replace N8 : News g1 L1 h8 _ := N8
    k_steps
    refine unbrk ?_
    (try k_fold)
    refine wpAny_For (hs := fun _ => rfl) ?_
    k_steps
    refine unbrk ?_
    (try k_fold)
    refine for_list (l := lj) (vs := vsj) (ln := nj) (fun k => NbJ led own ((csj.take k).foldl nbStep (nbFold (css.take i)))) rfl F8 N8 ?hl2 ?hj2 ?turn2 ?done2 ?hE2
    case hE2 => with_unfolding_all passes_own
    case hl2 =>
      intro k m₂ nx hJ
      obtain ⟨fv, tl2, e1, e2, e3, e4⟩ := hJ
      rw [e2]
      exact List.mem_append_left _ (List.mem_append_right _ hmj)
    case hj2 => exact ⟨fv, tl', e1, rfl, fun q hq p hp => hoff q (List.mem_append_left _ hq) p hp, e3⟩
    case turn2 =>
      intro k v m₂ nx h9 tk9 own2 hv2 hoff2 hJ F9 N9
      (try k_fold)
      obtain ⟨fv, tl2, e1, e2, e3, e4⟩ := hJ
      subst e2
      obtain ⟨c2, hc2, a2, n2, t2, u2, rfl, hm2⟩ := paired_get hpj2 hv2
      refine assign_pair rfl rfl rfl rfl F9 N9 (List.mem_append_left _ (List.mem_append_left _ (List.mem_append_right _ hm2))) (fun h10 tk10 F10 N10 => ?_)
      (try k_fold)
      have e1' : (fun z => if z = Str.ofString "high" then some (Value.int c2.2 u2) else if z = Str.ofString "low" then some (Value.int c2.1 t2) else m₂ z) (Str.ofString "found") = some fv := e1
      replace F10 : Fr g1 L1 h10 _ := fr_has F10 e1'
      replace N10 : News g1 L1 h10 _ := N10
      have hstep : (csj.take (k + 1)).foldl nbStep (nbFold (css.take i)) = nbStep ((csj.take k).foldl nbStep (nbFold (css.take i))) c2 := by
        rw [List.take_succ, hc2]
        simp
      generalize (csj.take k).foldl nbStep (nbFold (css.take i)) = f at *
      cases f with
      | none =>
        obtain rfl : fv = .none := e4
        k_steps
        exact nb_new (by assumption) rfl (by assumption) (by assumption) hoff2 e3 hstep
      | some b =>
        obtain ⟨ab, nb, tb, ub, rfl, hmb⟩ := e4
        k_steps
        refine unbrk ?_
        (try k_fold)
        refine sub_tup (its := [_, _]) N10 (List.mem_append_left _ (List.mem_append_left _ hmb)) (by decide) (by decide) rfl ?_
        (try k_fold)
        k_steps
        refine unbrk ?_
        (try k_fold)
        refine sub_tup (its := [_, _]) N10 (List.mem_append_left _ (List.mem_append_left _ hmb)) (by decide) (by decide) rfl ?_
        (try k_fold)
        k_steps
        · exact nb_new (by assumption) rfl (by assumption) (by assumption) hoff2 e3 (hstep.trans (if_pos ⟨by assumption, by assumption⟩))
        · have q1 : ¬ c2.1 ≤ c2.2 := by assumption
          refine nb_same F10 rfl N10 hoff2 e3 ?_
          rw [hstep, show nbStep (some b) c2 = some b by unfold nbStep; simp only; rw [if_neg (fun h => q1 h.2), if_neg q1]]
          exact ⟨ab, nb, tb, ub, rfl, hmb⟩
        · refine unbrk ?_
          (try k_fold)
          refine sub_tup (its := [_, _]) N10 (List.mem_append_left _ (List.mem_append_left _ hmb)) (by decide) (by decide) rfl ?_
          (try k_fold)
          k_steps
          refine unbrk ?_
          (try k_fold)
          refine sub_tup (its := [_, _]) (by assumption) (List.mem_append_left _ (List.mem_append_left _ hmb)) (by decide) (by decide) rfl ?_
          (try k_fold)
          k_steps
          exact nb_new (by assumption) rfl (by assumption) (by assumption) hoff2 e3 (hstep.trans ((if_neg (fun h => absurd h.1 (by assumption))).trans (if_pos (by assumption))))
        · have q1 : ¬ c2.1 ≤ c2.2 := by assumption
          refine nb_same F10 rfl N10 hoff2 e3 ?_
          rw [hstep, show nbStep (some b) c2 = some b by unfold nbStep; simp only; rw [if_neg (fun h => q1 h.2), if_neg q1]]
          exact ⟨ab, nb, tb, ub, rfl, hmb⟩
    case done2 =>
      intro m₂ nx h9 tk9 hJ F9 N9
      (try k_fold)
      obtain ⟨fv, tl2, e1, e2, e3, e4⟩ := hJ
      subst e2
      k_steps
      refine ⟨h9, _, m₂, tl2 ++ led, rfl, F9, N9, ?_, fv, tl2, e1, rfl, ?_⟩
      · intro q hq p hp
        rcases List.mem_append.mp hq with hq | hq
        · exact e3 q hq p hp
        · exact hoff q (List.mem_append_right _ hq) p hp
      · rw [nbFold, List.take_succ, hcj]
        simp only [Option.toList_some, List.foldl_append, List.foldl_cons, List.foldl_nil]
        rw [List.take_of_length_le (Nat.le_of_eq (paired_length hpj2).symm)] at e4
        exact e4
  case done =>
    intro m₁ nx h7 tk7 hJ F7 N7
    (try k_fold)
    obtain ⟨fv, tl', e1, e2, e3⟩ := hJ
    subst e2
    replace F7 : Fr g1 L1 h7 _ := fr_has F7 e1
    replace N7 : News g1 L1 h7 _ := N7
    have hlen : refs.length = css.length := by rw [paired_length hp, List.length_map]
    rw [List.take_of_length_le (Nat.le_of_eq hlen.symm)] at e3
    k_steps
    exact hret _ tl' _ _ (by assumption) (by assumption) e3
end
section
def Pt.cs : Pt → List (Int × Int)
  | .named cs => cs
  | _ => []
def aggN (ps : List Pt) (g : Option (Int × Int)) (low : Int) : Option (Int × Int) :=
  match ps with
  | .named _ :: _ => nbFold (ps.map Pt.cs)
  | _ => some ((g.map (·.1)).getD low, (g.map (·.1)).getD low + ps.length - 1)
def aggB (ps : List Pt) (g : Option (Int × Int)) (low : Int) : Option (Int × Int) :=
  match ps.getLast? with
  | some .others => g
  | _ => aggN ps g low
theorem aggB_oth {ps : List Pt} {g : Option (Int × Int)} {low : Int} {n : Nat} {p : Pt} (hn : n = ps.length) (hp : ps[n - 1]? = some p) (h : p.isOth = true) : aggB ps g low = g := by
  have : p = .others := by cases p <;> first | rfl | (cases h)
  subst this
  unfold aggB
  rw [List.getLast?_eq_getElem?, ← hn, hp]
theorem aggB_not {ps : List Pt} {g : Option (Int × Int)} {low : Int} {n : Nat} {p : Pt} (hn : n = ps.length) (hp : ps[n - 1]? = some p) (h : p.isOth = false) : aggB ps g low = aggN ps g low := by
  unfold aggB
  rw [List.getLast?_eq_getElem?, ← hn, hp]
  cases p <;> first | rfl | (cases h)
theorem ret_pair1 {h₀ h' : Heap} {L D : Addr} {m : Str → Option Value} {s : Shared} {Q : Value → Shared → Prop} {led : Led} {x y : Int} {t u : Tok} {k tk' : Nat}
    (hret : ∀ v tl' h' tk', Fr h₀ L h' m → News h₀ L h' (tl' ++ led) → GIn (tl' ++ led) v (some (x, y)) → Q v { s with heap := h', toks := tk' })
    (F : Fr h₀ L h' m) (N : News h₀ L h' ((D, tupOf #[.int x t, .int y u] k) :: led)) : Q (.ref D) { s with heap := h', toks := tk' } :=
  hret _ [(D, tupOf #[.int x t, .int y u] k)] _ _ F N ⟨D, k, t, u, rfl, .head _⟩

set_option maxHeartbeats 8000000 in
theorem agg_spec (w : World) (loose : List Str) (mean : ExcName → Option Value) (mg mb : Str → Option Value) {led : Led} {pl : Addr} {np : Nat} {refs : List Value} {ps : List Pt} {gv : Value} {g : Option (Int × Int)} {low : Int} {tl : Tok}
    (hm : (pl, listOf refs.toArray np) ∈ led) (hp : Paired (PtIn led) refs ps) (hok : PartsOk ps) (hg : GIn led gv g) :
    Calls w loose mean mg mb 2 109 [.ref pl, gv, .int low tl] led fun h₀ L m s Q =>
      ∀ v tl' h' tk', Fr h₀ L h' m → News h₀ L h' (tl' ++ led) → GIn (tl' ++ led) v (aggB ps g low) → Q v { s with heap := h', toks := tk' } := by
  unfold Calls
  k_fill
  intro dp un gd cn cs a ccd cl outer A₀ base h₀ L m s Q E B F X N T hk hd hu hret
  refine wpAny_call ?_
  k_dflt (refine' code_def ?k1 ?k2 ?k3 ?k4 ?k5 ?kA ?kF ?kK ?k6 ?k7 ?k8 ?k9 ?kB ?_ ?c2 ?c3 ?c4 ?c5; (case kA => exact rfl); (case kF => exact rfl); (case kK => first | exact rfl | assumption); (case k1 => k_asm); (case k2 => k_asm); (case k3 => k_asm); (case k4 => k_asm); (case k5 => k_asm); (case k6 => k_is); (case k7 => k_is); (case k8 => ktr_room); (case k9 => exact BindsTo.of_eq rfl); (case c5 => decide); (case kB => exact locs rfl); (case c2 => exact rfl); (case c3 => exact rfl); (case c4 => exact rfl); k_whole; intro g1 L1 h1 FG1 F1 N1 B1 X1 T1; (try dsimp only); (try k_lift B1); (try k_fold))
  refine foldA ?_
  intro fA
  try (have fR : Around.units fA < cLine := by (simp only [fA, Around.deeper]; omega))
  try (have fR1 : Around.units (Around.in1 fA) < cLine := by (simp only [fA, Around.deeper, Around.in1]; omega))
  refine foldE ?_
  intro fE
  (try k_fold)
  have hbs : BrkSub := ⟨⟩
  replace F1 : Fr g1 L1 h1 (fun y => List.lookup y [(Str.ofString "low", Value.int low tl), (Str.ofString "given", gv), (Str.ofString "parts", .ref pl)]) := F1
  obtain ⟨body, tail, rfl, hne, htail, hbody⟩ := hok
  have hlp : 0 < (body ++ tail).length := List.length_pos_iff.mpr hne
  have hll := paired_length hp
  have hl10 : refs.length ≤ 10 := by
    rw [hll, List.length_append]
    have h1 : tail.length ≤ 1 := by rcases htail with h | h <;> rw [h] <;> decide
    have h2 : body.length ≤ 5 := by
      rcases hbody with ⟨k, hk, e⟩ | ⟨css, hk, e, _⟩
      · rw [e, List.length_replicate]; omega
      · rw [e, List.length_map]; omega
    omega
  have hlr : 0 < refs.length := by omega
  obtain ⟨plast, hpl⟩ : ∃ p, (body ++ tail)[refs.length - 1]? = some p := ⟨_, List.getElem?_eq_getElem (by omega)⟩
  obtain ⟨vl, hvl, a9, n9, vc9, x9, t9, rfl, hm9, hc9⟩ := paired_get' hp hpl
  k_steps
  refine unbrk ?_
  (try k_fold)
  refine sub_at (by assumption) hm (by omega) (by omega) (by rw [show ((refs.length : Int) - 1).toNat = refs.length - 1 by omega]; exact hvl) ?_
  (try k_fold)
  k_steps
  refine unbrk ?_
  (try k_fold)
  refine sub_tup (its := [vc9, _]) (by assumption) hm9 (by decide) (by decide) rfl ?_
  (try k_fold)
  k_steps
  refine cho_eq (by assumption) hc9 (by walk_at "my room") ?_
  (try k_fold)
  k_steps
  · refine hret _ [] _ _ (by assumption) (by assumption) ?_
    rw [aggB_oth hll hpl (by assumption)]
    exact hg
  · refine unbrk ?_
    (try k_fold)
    have hnoth : plast.isOth = false := by assumption
    have ht0 : tail = [] := by
      rcases htail with h | h
      · exact h
      · subst h
        rw [show refs.length - 1 = body.length by rw [hll]; simp] at hpl
        rw [List.getElem?_append_right (Nat.le_refl _)] at hpl
        simp at hpl
        subst hpl
        cases hnoth
    subst ht0
    rw [List.append_nil] at hp hlp hll hpl hret
    rw [aggB_not hll hpl hnoth] at hret
    obtain ⟨pfst, hpf⟩ : ∃ p, body[0]? = some p := ⟨_, List.getElem?_eq_getElem (by omega)⟩
    obtain ⟨vf, hvf, a8, n8, vc8, x8, t8, rfl, hm8, hc8⟩ := paired_get' hp hpf
    refine sub_at (by assumption) hm (by decide) (by decide) hvf ?_
    (try k_fold)
    k_steps
    refine unbrk ?_
    (try k_fold)
    refine sub_tup (its := [vc8, _]) (by assumption) hm8 (by decide) (by decide) rfl ?_
    (try k_fold)
    rcases hbody with ⟨k, hk5, rfl⟩ | ⟨css, hcl, rfl, hcs⟩
    · obtain ⟨k, rfl⟩ : ∃ k', k = k' + 1 := ⟨k - 1, by simp at hlp; omega⟩
      obtain rfl : .pos = pfst := by simpa using hpf
      obtain rfl : vc8 = .none := hc8
      have hrl : refs.length = k + 1 := by simpa using hll
      have hkl : ((List.replicate (k + 1) Pt.pos).length : Int) = (refs.length : Int) := by rw [hll]
      cases g with
      | none => 
        obtain rfl : gv = .none := hg
        rw [show aggN (List.replicate (k + 1) .pos) none low = some (low, low + (refs.length : Int) - 1) by
          show some (low, low + ((List.replicate (k + 1) Pt.pos).length : Int) - 1) = _
          rw [hkl]] at hret
        k_steps
        exact ret_pair1 hret (by assumption) (by assumption)
      | some b => 
        obtain ⟨ag, ng, tg, ug, rfl, hmg⟩ := hg
        rw [show aggN (List.replicate (k + 1) .pos) (some b) low = some (b.1, b.1 + (refs.length : Int) - 1) by
          show some (b.1, b.1 + ((List.replicate (k + 1) Pt.pos).length : Int) - 1) = _
          rw [hkl]] at hret
        k_steps
        refine unbrk ?_
        (try k_fold)
        refine sub_tup (its := [_, _]) (by assumption) hmg (by decide) (by decide) rfl ?_
        (try k_fold)
        k_steps
        exact ret_pair1 hret (by assumption) (by assumption)
    · obtain ⟨cs0, css, rfl⟩ : ∃ a b, css = a :: b := by
        cases css with
        | nil => simp at hlp
        | cons a b => exact ⟨a, b, rfl⟩
      obtain rfl : .named cs0 = pfst := by simpa using hpf
      obtain ⟨l8, nl8, vs8, rfl, hml8, hpv8⟩ := hc8
      rw [show aggN ((cs0 :: css).map .named) g low = nbFold (cs0 :: css) by
        show nbFold (((cs0 :: css).map Pt.named).map Pt.cs) = _
        rw [List.map_map, show (Pt.cs ∘ Pt.named) = id from rfl, List.map_id]] at hret
      k_steps
      refine unbrk ?_
      (try k_fold)
      refine' (named_spec w loose mean mg mb hm hp) _ _ _ _ _ _ _ _ _ _ _ _ _ _ _ _ _ (by assumption) (by assumption) (by assumption) (by assumption) (by assumption) (by first | exact rfl | assumption) ?kd1 ?ku1 ?kr1
      case kd1 => first | omega | (dsimp only [ktrTop, Around.deeper, Around.mark, Around.in1]; omega) | exact Nat.le_of_ble_eq_true rfl
      case ku1 => first | omega | (dsimp only [ktrTop, Around.deeper, Around.mark, Around.in1]; omega) | exact Nat.le_of_ble_eq_true rfl
      intro v tl9 h9 tk9 F9 N9 g9
      k_steps
      exact hret _ tl9 _ _ (by assumption) (by assumption) g9
end
section
theorem fill51 : PySem.Challenge.rw_pb0005_01 = PySem.Challenge.rw_pb0005_01 ∧ Mine.hd.heap_39 = Mine.hd.heap_39 := by
  k_fill
  exact ⟨rfl, rfl⟩
def cd51 : ClassData := { name := "AdaRaise", bases := [.ref 31], mro := [.ref 51, .ref 31, .type "Exception", .type "BaseException", .type "object"], ns := 50, qualname := "AdaRaise" }
theorem objOf {K : Frag} {C : Addr} {cd : ClassData} {n : Value} (oc : Value) (od : Option Addr) (sl : Array (Option Value)) (e : K.lookup C = some ⟨oc, od, .cls cd, sl⟩) (h : (sl.toList[4]?).join = some n) : ∃ oc od sl, K.lookup C = some ⟨oc, od, .cls cd, sl⟩ ∧ (sl.toList[4]?).join = some n := ⟨oc, od, sl, e, h⟩
theorem exc51 (w : World) : ExcCls (Mine.hd.heap_39 w.params) 51 cd51 where
  obj := by
    refine' objOf _ _ _ ?a ?b
    case a => exact rfl
    case b => rfl
  del := rfl
  mro := ⟨_, rfl⟩
  exc := by k_is
  base := by k_is
  attr := by k_is
  nam := by k_is
  self := by k_is
  typ := by k_is
  call := by k_is
  cls := rfl
theorem refuse51 (self : Value) : Builtin.ObjectAttr.refuseIfOverridden self "__setattr__" = Builtin.ObjectAttr.refuseIfOverridden self "__setattr__" := rfl
theorem loop51 (self : Value) : refuseLoop self "__setattr__" cd51.mro = pure () := by
  show refuseLoop self "__setattr__" [.ref 51, .ref 31, .type "Exception", .type "BaseException", .type "object"] = pure ()
  rw [refuseLoop_ref, refuseLoop_ref]
  kernel_rfl
abbrev exA (t : Addr) : Array Value := #[.ref t, .none, .none, .none, .bool false, .none]

theorem metaExc : typeOf (.type "Exception") = pure (.type "type") := by kernel_rfl
set_option maxHeartbeats 8000000 in
theorem init28_spec (w : World) (loose : List Str) (mean : ExcName → Option Value) (mg mb : Str → Option Value) {rest : Led} {x t0 : Addr} {text : Str} {tt : Tok} (hne : ∀ p ∈ rest, p.1 ≠ x) :
    Calls w loose mean mg mb 2 28 [.ref x, .str text tt] ((x, excO 51 none (exA t0)) :: rest) fun h₀ L m s Q =>
      ∀ dx T t h' tk', Fr h₀ L h' m → News h₀ L h' ((x, excO 51 (some dx) (exA T)) :: (dx, dictOf (putL (Str.ofString "text") (PyData.keyHash w.params (Str.ofString "text")) (.str (Str.ofString "text") t) (.str text tt) []) (putN (Str.ofString "text") [] 0)) :: (T, tupOf #[.str text tt] 0) :: rest) →
        (∀ p ∈ rest, p.1 < T) → x < T → T < dx → Q .none { s with heap := h', toks := tk' } := by
  unfold Calls
  k_fill
  intro dp un gd cn cs a ccd cl outer A₀ base h₀ L m s Q E B F X N T hk hd hu hret
  refine wpAny_call ?_
  k_dflt (refine' code_def ?k1 ?k2 ?k3 ?k4 ?k5 ?kA ?kF ?kK ?k6 ?k7 ?k8 ?k9 ?kB ?_ ?c2 ?c3 ?c4 ?c5; (case kA => exact rfl); (case kF => exact rfl); (case kK => first | exact rfl | assumption); (case k1 => k_asm); (case k2 => k_asm); (case k3 => k_asm); (case k4 => k_asm); (case k5 => k_asm); (case k6 => k_is); (case k7 => k_is); (case k8 => ktr_room); (case k9 => exact BindsTo.of_eq rfl); (case c5 => decide); (case kB => exact locs rfl); (case c2 => exact rfl); (case c3 => exact rfl); (case c4 => exact rfl); k_whole; intro g1 L1 h1 FG1 F1 N1 B1 X1 T1; (try dsimp only); (try k_lift B1); (try k_fold))
  refine foldA ?_
  intro fA
  try (have fR : Around.units fA < cLine := by (simp only [fA, Around.deeper]; omega))
  try (have fR1 : Around.units (Around.in1 fA) < cLine := by (simp only [fA, Around.deeper, Around.in1]; omega))
  refine foldE ?_
  intro fE
  (try k_fold)
  replace F1 : Fr g1 L1 h1 (fun y => List.lookup y [(Str.ofString "text", .str text tt), (Str.ofString "self", Value.ref x)]) := F1
  k_steps
  k_dflt (refine' method_type ?F ?X ?m (by decide +kernel) ?e ?h ?_; (case F => k_asm); (case X => k_asm); (case m => exact metaExc); (case e => k_is); (case h => k_handed))
  (try k_fold)
  k_steps
  refine init_exc (by assumption) X1 (by assumption) hne rfl (exc51 w) (fun h2 T F2 N2 l1 l2 => ?_)
  (try k_fold)
  k_steps
  refine set_exc0 F2 X1 N2 (List.forall_mem_cons.mpr ⟨Nat.ne_of_gt l2, hne⟩) (exc51 w).cls rfl (by k_is) (by k_is) (loop51 _) (by k_is) rfl (Nat.le_of_ble_eq_true rfl) (fun h3 dx F3 N3 l3 l4 => ?_)
  (try k_fold)
  k_steps
  exact hret dx T _ _ _ (by assumption) (by assumption) l1 l2 (l3 _ (.head _))
end
section
theorem fill51b : PySem.Challenge.rw_pb0005_01 = PySem.Challenge.rw_pb0005_01 ∧ Mine.hd.heap_39 = Mine.hd.heap_39 := by
  k_fill
  exact ⟨rfl, rfl⟩
abbrev put (w : World) (name : Str) (t : Tok) (v : Value) (d : List DictEntry × Nat) : List DictEntry × Nat := (putL name (PyData.keyHash w.params name) (.str name t) v d.1, putN name d.1 d.2)
abbrev raisedD (w : World) (t1 t2 t3 t4 : Tok) (name text : Str) (line : Int) (tn tl tt : Tok) : List DictEntry × Nat :=
  put w (Str.ofString "line") t4 (.int line tl) (put w (Str.ofString "word") t3 (.str name tn) (put w (Str.ofString "name") t2 (.str name tn) (put w (Str.ofString "text") t1 (.str text tt) ([], 0))))

set_option maxHeartbeats 8000000 in
theorem init48_spec (w : World) (loose : List Str) (mean : ExcName → Option Value) (mg mb : Str → Option Value) {rest : Led} {x t0 : Addr} {name text : Str} {line : Int} {tn tl tt : Tok} (hne : ∀ p ∈ rest, p.1 ≠ x) :
    ∀ (dp un : Nat) (gd : Option (List Code)) (cn : Str) (cs : Scope) (a : Addr) (ccd : Value) (cl : List (Str × Addr)) (outer : List Env) (A₀ : Around) (base h₀ : Heap) (L : Addr) (m : Str → Option Value) (s : Shared) (R : Result → Shared → Prop),
    Below A₀ base outer h₀ → Fr h₀ L s.heap m → (Mine.hd.heap_39 w.params).In h₀ → News h₀ L s.heap ((x, excO 51 none (exA t0)) :: rest) → Top Mine.view loose mean mg mb h₀ → cs.kind = .function → dp + 3 < recursionLimit → un + 100 * 3 < cLine →
    (∀ dx T t1 t2 t3 t4 h' tk', Fr h₀ L h' m → News h₀ L h' ((x, excO 51 (some dx) (exA T)) :: (dx, dictOf (raisedD w t1 t2 t3 t4 name text line tn tl tt).1 (raisedD w t1 t2 t3 t4 name text line tn tl tt).2) :: (T, tupOf #[.str text tt] 0) :: rest) →
        (∀ p ∈ rest, p.1 < T) → x < T → T < dx → R (.ok (.ret .none)) { s with heap := h', toks := tk' }) →
    codeAny (model PySem.Challenge.rw_pb0005_01.row.prog w) (ktrTop dp un gd cn cs L a ccd cl outer) (.call (.ref 48) ⟨[.ref x, .str name tn, .int line tl, .str text tt], []⟩) R s := by
  k_fill
  intro dp un gd cn cs a ccd cl outer A₀ base h₀ L m s R B F X N T hk hd hu hret
  k_dflt (refine' code_def ?k1 ?k2 ?k3 ?k4 ?k5 ?kA ?kF ?kK ?k6 ?k7 ?k8 ?k9 ?kB ?_ ?c2 ?c3 ?c4 ?c5; (case kA => exact rfl); (case kF => exact rfl); (case kK => first | exact rfl | assumption); (case k1 => k_asm); (case k2 => k_asm); (case k3 => k_asm); (case k4 => k_asm); (case k5 => k_asm); (case k6 => k_is); (case k7 => k_is); (case k8 => ktr_room); (case k9 => exact BindsTo.of_eq rfl); (case c5 => decide); (case kB => exact locs rfl); (case c2 => exact rfl); (case c3 => exact rfl); (case c4 => exact rfl); k_whole; intro g1 L1 h1 FG1 F1 N1 B1 X1 T1; (try dsimp only); (try k_lift B1); (try k_fold))
  refine foldA ?_
  intro fA
  try (have fR : Around.units fA < cLine := by (simp only [fA, Around.deeper]; omega))
  try (have fR1 : Around.units (Around.in1 fA) < cLine := by (simp only [fA, Around.deeper, Around.in1]; omega))
  refine foldE ?_
  intro fE
  (try k_fold)
  replace F1 : Fr g1 L1 h1 (fun y => List.lookup y [(Str.ofString "text", .str text tt), (Str.ofString "line", .int line tl), (Str.ofString "name", .str name tn), (Str.ofString "self", Value.ref x)]) := F1
  k_steps
  refine unbrk ?_
  (try k_fold)
  refine' (init28_spec w loose mean mg mb hne) _ _ _ _ _ _ _ _ _ _ _ _ _ _ _ _ _ (by assumption) (by assumption) (by assumption) (by assumption) (by assumption) (by first | exact rfl | assumption) ?kd1 ?ku1 ?kr1
  case kd1 => first | omega | (dsimp only [ktrTop, Around.deeper, Around.mark, Around.in1]; omega) | exact Nat.le_of_ble_eq_true rfl
  case ku1 => first | omega | (dsimp only [ktrTop, Around.deeper, Around.mark, Around.in1]; omega) | exact Nat.le_of_ble_eq_true rfl
  intro dx T2 t1 h2 tk2 F2 N2 l1 l2 l3
  k_steps
  refine set_excD F2 X1 N2 (.head _) (.tail _ (.head _)) (exc51 w).cls rfl (by k_is) (by k_is) (loop51 _) (by k_is) rfl rfl (.tail (Nat.ne_of_lt (Nat.lt_trans l2 l3)) (.head (List.forall_mem_cons.mpr ⟨Nat.ne_of_lt l3, fun p hp => Nat.ne_of_lt (Nat.lt_trans (l1 p hp) l3)⟩))) (Nat.le_of_ble_eq_true rfl) (fun h3 F3 N3 => ?_)
  (try k_fold)
  k_steps
  refine set_excD F3 X1 N3 (.head _) (.tail _ (.head _)) (exc51 w).cls rfl (by k_is) (by k_is) (loop51 _) (by k_is) rfl rfl (.tail (Nat.ne_of_lt (Nat.lt_trans l2 l3)) (.head (List.forall_mem_cons.mpr ⟨Nat.ne_of_lt l3, fun p hp => Nat.ne_of_lt (Nat.lt_trans (l1 p hp) l3)⟩))) (Nat.le_of_ble_eq_true rfl) (fun h4 F4 N4 => ?_)
  (try k_fold)
  k_steps
  refine set_excD F4 X1 N4 (.head _) (.tail _ (.head _)) (exc51 w).cls rfl (by k_is) (by k_is) (loop51 _) (by k_is) rfl rfl (.tail (Nat.ne_of_lt (Nat.lt_trans l2 l3)) (.head (List.forall_mem_cons.mpr ⟨Nat.ne_of_lt l3, fun p hp => Nat.ne_of_lt (Nat.lt_trans (l1 p hp) l3)⟩))) (Nat.le_of_ble_eq_true rfl) (fun h5 F5 N5 => ?_)
  (try k_fold)
  k_steps
  exact hret dx T2 t1 _ _ _ _ _ (by assumption) (by assumption) l1 l2 l3
end
section
theorem tcw (a b c : Value) : (Code.builtin "type.__call__" ⟨[.ref 51, a, b, c], []⟩).weight = 1 := by kernel_rfl
theorem tcu (args : Args) : (Code.builtin "type.__call__" args).cUnits = 1 := by kernel_rfl
set_option maxHeartbeats 8000000 in
theorem raise_spec (w : World) (loose : List Str) (mean : ExcName → Option Value) (mg mb : Str → Option Value) {led : Led} {text : Str} {tt : Tok} :
    CallsE w loose mean mg mb 5 81 [.str text tt] led led (fun _ _ _ _ _ => True) (fun wd => wd = Str.ofString "constraint_error") := by
  unfold CallsE
  k_fill
  intro dp un gd cn cs a ccd cl outer A₀ base h₀ L m s Q E B F X N T hk hd hu hret herr
  refine wpAny_call ?_
  k_dflt (refine' code_def ?k1 ?k2 ?k3 ?k4 ?k5 ?kA ?kF ?kK ?k6 ?k7 ?k8 ?k9 ?kB ?_ ?c2 ?c3 ?c4 ?c5; (case kA => exact rfl); (case kF => exact rfl); (case kK => first | exact rfl | assumption); (case k1 => k_asm); (case k2 => k_asm); (case k3 => k_asm); (case k4 => k_asm); (case k5 => k_asm); (case k6 => k_is); (case k7 => k_is); (case k8 => ktr_room); (case k9 => exact BindsTo.of_eq rfl); (case c5 => decide); (case kB => exact locs rfl); (case c2 => exact rfl); (case c3 => exact rfl); (case c4 => exact rfl); k_whole; intro g1 L1 h1 FG1 F1 N1 B1 X1 T1; (try dsimp only); (try k_lift B1); (try k_fold))
  refine foldA ?_
  intro fA
  try (have fR : Around.units fA < cLine := by (simp only [fA, Around.deeper]; omega))
  try (have fR1 : Around.units (Around.in1 fA) < cLine := by (simp only [fA, Around.deeper, Around.in1]; omega))
  refine foldE ?_
  intro fE
  (try k_fold)
  replace F1 : Fr g1 L1 h1 (fun y => List.lookup y [(Str.ofString "text", .str text tt)]) := F1
  k_steps
  refine unbrk ?_
  (try k_fold)
  refine raise_exc (K := Mine.hd.heap_39 w.params) rfl ?_
  (try k_fold)
  k_steps
  refine unbrk ?_
  (try k_fold)
  refine wpAny_call (make_exc (exc51 w) (by assumption) (by assumption) (X1.keeps (by exact Fr.keep (by assumption))) (by simp) (by k_is) (by k_is) (fun x t h2 F2 N2 l1 l2 => ?_))
  refine' init48_spec w loose mean mg mb (rest := (t, tupOf _ 0) :: led) ?kne _ _ _ _ _ _ _ _ _ _ _ _ _ _ _ _ (by assumption) F2 X1 N2 T1 (by first | exact rfl | assumption) ?kd ?ku ?kr
  case kne => exact List.forall_mem_cons.mpr ⟨Nat.ne_of_lt l2, fun p hp => Nat.ne_of_lt (Nat.lt_trans (l1 p hp) l2)⟩
  case kd =>
    rw [tcw]
    simp only [fA, ktrTop, Around.deeper]
    omega
  case ku =>
    rw [tcu]
    simp only [fA, ktrTop, Around.deeper]
    omega
  case kr =>
    intro dx T t1 t2 t3 t4 h3 tk3 F3 N3 l3 l4 l5
    refine ⟨rfl, ?_⟩
    dsimp only
    k_steps
    refine ⟨x, 51, some dx, exA T, .type "type", none, _, cd51, rfl, (N3 _ (.head _)).1, rfl, X1.keeps F3.keep, rfl, rfl, by k_is, ?_⟩
    k_steps
    refine unbrk ?_
    (try k_fold)
    refine leave_made B1 F3 N3 (List.forall_mem_cons.mpr ⟨Nat.ne_of_gt (Nat.lt_trans l4 l5), List.forall_mem_cons.mpr ⟨Nat.ne_of_gt l4, List.forall_mem_cons.mpr ⟨Nat.ne_of_lt l2, fun p hp => Nat.ne_of_lt (Nat.lt_trans (l1 p hp) l2)⟩⟩⟩) rfl (fun h4 fl up => ?_)
    (try k_fold)
    exact herr g1 x dx _ _ _ _ _ FG1 up (fl.tl fun p hp => .tail _ (.tail _ hp)) rfl ⟨_, rfl⟩
end
section
set_option maxHeartbeats 8000000 in
theorem claim_spec (w : World) (loose : List Str) (mean : ExcName → Option Value) (mg mb : Str → Option Value) {rest : Led} {fl ba : Addr} {nf nb : Nat} {fvs : List Value} {fs : List Int} {lo hi idx place : Int} {t u ti tp : Tok}
    (hba : (ba, tupOf #[.int lo t, .int hi u] nb) ∈ rest) (hne : ∀ p ∈ rest, p.1 ≠ fl) (hf : Paired IntV fvs fs) (hlen : (fs.length : Int) = hi - lo + 1 ∨ hi < lo) (hsm : fs.length ≤ 1000) :
    CallsE w loose mean mg mb 6 116 [.ref fl, .ref ba, .int idx ti, .int place tp] ((fl, listOf fvs.toArray nf) :: rest) rest
      (fun h₀ L m s Q => lo ≤ idx → idx ≤ hi → (∃ x, fs[(idx - lo).toNat]? = some x ∧ x < 0) → ∀ h' tk', Fr h₀ L h' m → News h₀ L h' ((fl, listOf (fvs.set (idx - lo).toNat (.int place tp)).toArray nf) :: rest) → Q .none { s with heap := h', toks := tk' })
      (fun wd => wd = Str.ofString "constraint_error" ∧ ¬ (lo ≤ idx ∧ idx ≤ hi ∧ ∃ x, fs[(idx - lo).toNat]? = some x ∧ x < 0)) := by
  unfold CallsE
  k_fill
  intro dp un gd cn cs a ccd cl outer A₀ base h₀ L m s Q E B F X N T hk hd hu hret herr
  refine wpAny_call ?_
  k_dflt (refine' code_def ?k1 ?k2 ?k3 ?k4 ?k5 ?kA ?kF ?kK ?k6 ?k7 ?k8 ?k9 ?kB ?_ ?c2 ?c3 ?c4 ?c5; (case kA => exact rfl); (case kF => exact rfl); (case kK => first | exact rfl | assumption); (case k1 => k_asm); (case k2 => k_asm); (case k3 => k_asm); (case k4 => k_asm); (case k5 => k_asm); (case k6 => k_is); (case k7 => k_is); (case k8 => ktr_room); (case k9 => exact BindsTo.of_eq rfl); (case c5 => decide); (case kB => exact locs rfl); (case c2 => exact rfl); (case c3 => exact rfl); (case c4 => exact rfl); k_whole; intro g1 L1 h1 FG1 F1 N1 B1 X1 T1; (try dsimp only); (try k_lift B1); (try k_fold))
  refine foldA ?_
  intro fA
  try (have fR : Around.units fA < cLine := by (simp only [fA, Around.deeper]; omega))
  try (have fR1 : Around.units (Around.in1 fA) < cLine := by (simp only [fA, Around.deeper, Around.in1]; omega))
  refine foldE ?_
  intro fE
  (try k_fold)
  have hbs : BrkSub := ⟨⟩
  replace F1 : Fr g1 L1 h1 (fun y => List.lookup y [(Str.ofString "place", .int place tp), (Str.ofString "index", .int idx ti), (Str.ofString "bounds", .ref ba), (Str.ofString "found", .ref fl)]) := F1
  have hba1 : (ba, tupOf #[.int lo t, .int hi u] nb) ∈ (fl, listOf fvs.toArray nf) :: rest := .tail _ hba
  k_steps
  refine unbrk ?_
  (try k_fold)
  refine sub_tup (its := [_, _]) N1 hba1 (by decide) (by decide) rfl ?_
  (try k_fold)
  k_steps
  · refine unbrk ?_
    (try k_fold)
    refine sub_tup (its := [_, _]) (by assumption) hba1 (by decide) (by decide) rfl ?_
    (try k_fold)
    k_steps
    · have e1 : lo ≤ idx := by assumption
      have e2 : idx ≤ hi := by assumption
      obtain ⟨x, hx⟩ : ∃ x, fs[(idx - lo).toNat]? = some x := ⟨_, List.getElem?_eq_getElem (by omega)⟩
      obtain ⟨vx, hvx, tx, rfl⟩ := paired_get' hf hx
      have hfl : fvs.length = fs.length := paired_length hf
      refine unbrk ?_
      (try k_fold)
      refine sub_tup (its := [_, _]) (by assumption) hba1 (by decide) (by decide) rfl ?_
      (try k_fold)
      k_steps
      refine unbrk ?_
      (try k_fold)
      refine sub_at (by assumption) (.head _) (by omega) (by omega) hvx ?_
      (try k_fold)
      k_steps
      · refine unbrk ?_
        (try k_fold)
        have e3 : x ≥ 0 := by assumption
        refine' (raise_spec w loose mean mg mb) _ _ _ _ _ _ _ _ _ _ _ _ _ _ _ _ _ (by assumption) (by assumption) (by assumption) (by assumption) (by assumption) (by first | exact rfl | assumption) ?kd1 ?ku1 ?kr1 ?ke1
        case kd1 => first | omega | (dsimp only [ktrTop, Around.deeper, Around.mark, Around.in1]; omega) | exact Nat.le_of_ble_eq_true rfl
        case ku1 => first | omega | (dsimp only [ktrTop, Around.deeper, Around.mark, Around.in1]; omega) | exact Nat.le_of_ble_eq_true rfl
        case kr1 => trivial
        intro gg ee dx hh tk9 wd es nn Fg ug fl9 hw hwd
        k_steps
        refine unbrk ?_
        (try k_fold)
        refine leave_flown B1 Fg fl9 ug (fun h9 fx9 up9 => ?_)
        (try k_fold)
        exact herr g1 ee dx h9 _ wd es nn FG1 up9 (fx9.tl fun p hp => .tail _ hp) ⟨hw, fun h => by
          obtain ⟨_, _, y, hy, hy0⟩ := h
          rw [hx] at hy
          cases hy
          omega⟩ hwd
      · have e3 : ¬ x ≥ 0 := by assumption
        refine unbrk ?_
        (try k_fold)
        refine sub_tup (its := [_, _]) (by assumption) hba1 (by decide) (by decide) rfl ?_
        (try k_fold)
        k_steps
        refine unbrk ?_
        (try k_fold)
        refine set_led (by assumption) (by assumption) hne (by omega) (by omega) (by omega) (fun h8 F8 N8 => ?_)
        (try k_fold)
        k_steps
        exact hret e1 e2 ⟨x, hx, by omega⟩ _ _ (by assumption) (by assumption)
    · refine unbrk ?_
      (try k_fold)
      refine' (raise_spec w loose mean mg mb) _ _ _ _ _ _ _ _ _ _ _ _ _ _ _ _ _ (by assumption) (by assumption) (by assumption) (by assumption) (by assumption) (by first | exact rfl | assumption) ?kd2 ?ku2 ?kr2 ?ke2
      case kd2 => first | omega | (dsimp only [ktrTop, Around.deeper, Around.mark, Around.in1]; omega) | exact Nat.le_of_ble_eq_true rfl
      case ku2 => first | omega | (dsimp only [ktrTop, Around.deeper, Around.mark, Around.in1]; omega) | exact Nat.le_of_ble_eq_true rfl
      case kr2 => trivial
      intro gg ee dx hh tk9 wd es nn Fg ug fl9 hw hwd
      k_steps
      refine unbrk ?_
      (try k_fold)
      refine leave_flown B1 Fg fl9 ug (fun h9 fx9 up9 => ?_)
      (try k_fold)
      exact herr g1 ee dx h9 _ wd es nn FG1 up9 (fx9.tl fun p hp => .tail _ hp) ⟨hw, fun h => absurd h.2.1 (by assumption)⟩ hwd
  · refine unbrk ?_
    (try k_fold)
    refine' (raise_spec w loose mean mg mb) _ _ _ _ _ _ _ _ _ _ _ _ _ _ _ _ _ (by assumption) (by assumption) (by assumption) (by assumption) (by assumption) (by first | exact rfl | assumption) ?kd3 ?ku3 ?kr3 ?ke3
    case kd3 => first | omega | (dsimp only [ktrTop, Around.deeper, Around.mark, Around.in1]; omega) | exact Nat.le_of_ble_eq_true rfl
    case ku3 => first | omega | (dsimp only [ktrTop, Around.deeper, Around.mark, Around.in1]; omega) | exact Nat.le_of_ble_eq_true rfl
    case kr3 => trivial
    intro gg ee dx hh tk9 wd es nn Fg ug fl9 hw hwd
    k_steps
    refine unbrk ?_
    (try k_fold)
    refine leave_flown B1 Fg fl9 ug (fun h9 fx9 up9 => ?_)
    (try k_fold)
    exact herr g1 ee dx h9 _ wd es nn FG1 up9 (fx9.tl fun p hp => .tail _ hp) ⟨hw, fun h => absurd h.1 (by assumption)⟩ hwd
end
section
set_option maxHeartbeats 8000000 in
theorem dim_spec (w : World) (loose : List Str) (mean : ExcName → Option Value) (mg mb : Str → Option Value) {led : Led} {lo hi : Int} {t u : Tok} :
    Calls w loose mean mg mb 1 88 [.int lo t, .int hi u] led fun h₀ L m s Q => ∀ h' tk' tr, Fr h₀ L h' m → News h₀ L h' led → Q (.int (dimL lo hi) tr) { s with heap := h', toks := tk' } := by
  unfold Calls
  k_fill
  intro dp un gd cn cs a ccd cl outer A₀ base h₀ L m s Q E B F X N T hk hd hu hret
  refine wpAny_call ?_
  k_dflt (refine' code_def ?k1 ?k2 ?k3 ?k4 ?k5 ?kA ?kF ?kK ?k6 ?k7 ?k8 ?k9 ?kB ?_ ?c2 ?c3 ?c4 ?c5; (case kA => exact rfl); (case kF => exact rfl); (case kK => first | exact rfl | assumption); (case k1 => k_asm); (case k2 => k_asm); (case k3 => k_asm); (case k4 => k_asm); (case k5 => k_asm); (case k6 => k_is); (case k7 => k_is); (case k8 => ktr_room); (case k9 => exact BindsTo.of_eq rfl); (case c5 => decide); (case kB => exact locs rfl); (case c2 => exact rfl); (case c3 => exact rfl); (case c4 => exact rfl); k_whole; intro g1 L1 h1 FG1 F1 N1 B1 X1 T1; (try dsimp only); (try k_lift B1); (try k_fold))
  refine foldA ?_
  intro fA
  try (have fR : Around.units fA < cLine := by (simp only [fA, Around.deeper]; omega))
  try (have fR1 : Around.units (Around.in1 fA) < cLine := by (simp only [fA, Around.deeper, Around.in1]; omega))
  refine foldE ?_
  intro fE
  (try k_fold)
  replace F1 : Fr g1 L1 h1 (fun y => List.lookup y [(Str.ofString "high", .int hi u), (Str.ofString "low", .int lo t)]) := F1
  k_steps
  exact hret _ _ _ (by assumption) (by assumption)
theorem sub_mono {news : Led} {x : Led} (p : Addr × Obj) (h : p ∈ x) (e : ∀ q ∈ x, q ∈ news) : p ∈ news := e p h
structure LimIn (led : Led) (lx : Addr) (mem : Int) : Prop where
  there : ∃ ldx es n t, (lx, instObj 155 ldx) ∈ led ∧ (ldx, dictOf es n) ∈ led ∧ getL (Str.ofString "members") es = some (some (.int mem t))
theorem LimIn.mono {led led' : Led} {lx : Addr} {mem : Int} (h : LimIn led lx mem) (hs : ∀ p ∈ led, p ∈ led') : LimIn led' lx mem :=
  let ⟨ldx, es, n, t, a, b, c⟩ := h.there; ⟨ldx, es, n, t, hs _ a, hs _ b, c⟩

set_option maxHeartbeats 8000000 in
theorem size_spec (w : World) (loose : List Str) (mean : ExcName → Option Value) (mg mb : Str → Option Value) {led : Led} {bl ba lx : Addr} {n0 nb : Nat} {lo hi mem : Int} {t u : Tok}
    (hbl : (bl, listOf [Value.ref ba].toArray n0) ∈ led) (hba : (ba, tupOf #[.int lo t, .int hi u] nb) ∈ led) (hlim : LimIn led lx mem) :
    CallsE w loose mean mg mb 6 95 [.ref bl, .ref lx] led led
      (fun h₀ L m s Q => dimL lo hi ≤ mem → ∀ h' tk' tr, Fr h₀ L h' m → News h₀ L h' led → Q (.int (dimL lo hi) tr) { s with heap := h', toks := tk' })
      (fun wd => wd = Str.ofString "storage_error" ∧ ¬ dimL lo hi ≤ mem) := by
  unfold CallsE
  k_fill
  intro dp un gd cn cs a ccd cl outer A₀ base h₀ L m s Q E B F X N T hk hd hu hret herr
  refine wpAny_call ?_
  k_dflt (refine' code_def ?k1 ?k2 ?k3 ?k4 ?k5 ?kA ?kF ?kK ?k6 ?k7 ?k8 ?k9 ?kB ?_ ?c2 ?c3 ?c4 ?c5; (case kA => exact rfl); (case kF => exact rfl); (case kK => first | exact rfl | assumption); (case k1 => k_asm); (case k2 => k_asm); (case k3 => k_asm); (case k4 => k_asm); (case k5 => k_asm); (case k6 => k_is); (case k7 => k_is); (case k8 => ktr_room); (case k9 => exact BindsTo.of_eq rfl); (case c5 => decide); (case kB => exact locs rfl); (case c2 => exact rfl); (case c3 => exact rfl); (case c4 => exact rfl); k_whole; intro g1 L1 h1 FG1 F1 N1 B1 X1 T1; (try dsimp only); (try k_lift B1); (try k_fold))
  refine foldA ?_
  intro fA
  try (have fR : Around.units fA < cLine := by (simp only [fA, Around.deeper]; omega))
  try (have fR1 : Around.units (Around.in1 fA) < cLine := by (simp only [fA, Around.deeper, Around.in1]; omega))
  refine foldE ?_
  intro fE
  (try k_fold)
  replace F1 : Fr g1 L1 h1 (fun y => List.lookup y [(Str.ofString "limits", .ref lx), (Str.ofString "bounds", .ref bl)]) := F1
  k_steps
  refine unbrk ?_
  (try k_fold)
  refine wpAny_For (hs := fun _ => rfl) ?_
  k_steps
  refine unbrk ?_
  (try k_fold)
  refine for_list (l := bl) (vs := [Value.ref ba]) (ln := n0) (fun i m₁ nx => nx = led ∧ (∃ ts, m₁ (Str.ofString "size") = some (.int (if i = 0 then 1 else dimL lo hi) ts)) ∧ m₁ (Str.ofString "limits") = some (.ref lx)) rfl (by assumption) (by assumption) ?hl ?hj ?turn ?done ?hE
  case hE => with_unfolding_all passes_own
  case hl =>
    intro i m₁ nx hJ
    rw [hJ.1]
    exact hbl
  case hj => exact ⟨rfl, ⟨_, rfl⟩, rfl⟩
  case turn =>
    intro i v m₁ nx h7 tk7 own hv hoff hJ F7 N7
    (try k_fold)
    obtain ⟨e1, ⟨ts, e2⟩, e3⟩ := hJ
    subst e1
    obtain rfl : i = 0 := by
      cases i with
      | zero => rfl
      | succ k => simp at hv
    obtain rfl : .ref ba = v := by simpa using hv
    refine assign_pair rfl rfl rfl rfl F7 N7 (List.mem_append_left _ hba) (fun h8 tk8 F8 N8 => ?_)
    (try k_fold)
    have e2' : (fun z => if z = Str.ofString "high" then some (Value.int hi u) else if z = Str.ofString "low" then some (Value.int lo t) else m₁ z) (Str.ofString "size") = some (.int 1 ts) := e2
    replace F8 : Fr g1 L1 h8 _ := fr_has F8 e2'
    replace N8 : News g1 L1 h8 _ := N8
    k_steps
    refine unbrk ?_
    (try k_fold)
    refine' (dim_spec w loose mean mg mb) _ _ _ _ _ _ _ _ _ _ _ _ _ _ _ _ _ (by assumption) (by assumption) (by assumption) (by assumption) (by assumption) (by first | exact rfl | assumption) ?kd1 ?ku1 ?kr1
    case kd1 => first | omega | (dsimp only [ktrTop, Around.deeper, Around.mark, Around.in1]; omega) | exact Nat.le_of_ble_eq_true rfl
    case ku1 => first | omega | (dsimp only [ktrTop, Around.deeper, Around.mark, Around.in1]; omega) | exact Nat.le_of_ble_eq_true rfl
    intro h9 tk9 tr F9 N9
    k_steps
    (with_reducible rename Fr _ _ _ _ => F10)
    (with_reducible rename News _ _ _ _ => N10)
    exact ⟨_, _, _, nx, rfl, F10, N10, hoff, rfl, ⟨_, congrArg (fun z => some (Value.int z _)) (show 1 * dimL lo hi = if 0 + 1 = 0 then 1 else dimL lo hi by rw [Int.one_mul, if_neg (by decide)])⟩, e3⟩
  case done =>
    intro m₁ nx h7 tk7 hJ F7 N7
    (try k_fold)
    obtain ⟨e1, ⟨ts, e2⟩, e3⟩ := hJ
    subst e1
    rw [if_neg (by simp)] at e2
    have e3' : (fun y => if y = Str.ofString "size" then some (Value.int (dimL lo hi) ts) else m₁ y) (Str.ofString "limits") = some (.ref lx) := e3
    replace F7 : Fr g1 L1 h7 _ := fr_has (fr_has F7 e2) e3'
    replace N7 : News g1 L1 h7 _ := N7
    obtain ⟨ldx, les, ln, lt, hl1, hl2, hl3⟩ := hlim.there
    k_steps
    refine get_value (X1.keeps F7.keep) (InstAt.of_news N7 hl1 hl2) (by k_is) (findObj_own (by k_is) (by k_is) rfl hl3) rfl ?_
    (try k_fold)
    k_steps
    · refine unbrk ?_
      (try k_fold)
      refine raise_exc (K := Mine.hd.heap_39 w.params) rfl ?_
      (try k_fold)
      k_steps
      refine unbrk ?_
      (try k_fold)
      refine wpAny_call (make_exc (exc51 w) (by assumption) (by assumption) (X1.keeps (by exact Fr.keep (by assumption))) (by simp) (by k_is) (by k_is) (fun x t h2 F2 N2 l1 l2 => ?_))
      refine' init48_spec w loose mean mg mb (rest := (t, tupOf _ 0) :: nx) ?kne _ _ _ _ _ _ _ _ _ _ _ _ _ _ _ _ (by assumption) F2 X1 N2 T1 (by first | exact rfl | assumption) ?kd ?ku ?kr
      case kne => exact List.forall_mem_cons.mpr ⟨Nat.ne_of_lt l2, fun p hp => Nat.ne_of_lt (Nat.lt_trans (l1 p hp) l2)⟩
      case kd =>
        rw [tcw]
        simp only [fA, ktrTop, Around.deeper]
        omega
      case ku =>
        rw [tcu]
        simp only [fA, ktrTop, Around.deeper]
        omega
      case kr =>
        intro dx T t1 t2 t3 t4 h3 tk3 F3 N3 l3 l4 l5
        refine ⟨rfl, ?_⟩
        dsimp only
        k_steps
        refine ⟨x, 51, some dx, exA T, .type "type", none, _, cd51, rfl, (N3 _ (.head _)).1, rfl, X1.keeps F3.keep, rfl, rfl, by k_is, ?_⟩
        k_steps
        refine unbrk ?_
        (try k_fold)
        refine leave_made B1 F3 N3 (List.forall_mem_cons.mpr ⟨Nat.ne_of_gt (Nat.lt_trans l4 l5), List.forall_mem_cons.mpr ⟨Nat.ne_of_gt l4, List.forall_mem_cons.mpr ⟨Nat.ne_of_lt l2, fun p hp => Nat.ne_of_lt (Nat.lt_trans (l1 p hp) l2)⟩⟩⟩) rfl (fun h4 fl up => ?_)
        (try k_fold)
        exact herr g1 x dx _ _ _ _ _ FG1 up (fl.tl fun p hp => .tail _ (.tail _ hp)) ⟨rfl, by omega⟩ ⟨_, rfl⟩
    · exact hret (by omega) _ _ _ (by assumption) (by assumption)
end
section
theorem fr_has3 {h₀ h : Heap} {L : Addr} {m : Str → Option Value} {a b c : Str} {va vb vc : Value} (F : Fr h₀ L h m) (ea : m a = some va) (eb : m b = some vb) (ec : m c = some vc) :
    Fr h₀ L h (fun y => if y = a then some va else if y = b then some vb else if y = c then some vc else m y) := fr_eq F fun y => by
  by_cases h1 : y = a
  · rw [if_pos h1, h1, ea]
  · rw [if_neg h1]
    by_cases h2 : y = b
    · rw [if_pos h2, h2, eb]
    · rw [if_neg h2]
      by_cases h3 : y = c
      · rw [if_pos h3, h3, ec]
      · rw [if_neg h3]

set_option maxHeartbeats 8000000 in
theorem claims_spec (w : World) (loose : List Str) (mean : ExcName → Option Value) (mg mb : Str → Option Value) {rest : Led} {fl ba ca : Addr} {nf nb nc : Nat} {fvs cvs : List Value} {fs : List Int} {cs : List (Int × Int)} {lo hi place : Int} {t u tp : Tok}
    (hba : (ba, tupOf #[.int lo t, .int hi u] nb) ∈ rest) (hca : (ca, listOf cvs.toArray nc) ∈ rest) (hcs : Paired (ChIn rest) cvs cs) (hok : ∀ c ∈ cs, ChOk c) (hne : ∀ p ∈ rest, p.1 ≠ fl) (hf : Paired IntV fvs fs) (hlen : (fs.length : Int) = hi - lo + 1 ∨ hi < lo) (hsm : fs.length ≤ 1000) :
    CallsE w loose mean mg mb 7 130 [.ref fl, .ref ba, .ref ca, .int place tp] ((fl, listOf fvs.toArray nf) :: rest) rest
      (fun h₀ L m s Q => ∀ fs' fvs' h' tk', claimCs lo hi place fs cs = some fs' → Paired IntV fvs' fs' → Fr h₀ L h' m → News h₀ L h' ((fl, listOf fvs'.toArray nf) :: rest) → Q .none { s with heap := h', toks := tk' })
      (fun wd => wd = Str.ofString "constraint_error" ∧ claimCs lo hi place fs cs = none) := by
  unfold CallsE
  k_fill
  intro dp un gd cn cs' a ccd cl outer A₀ base h₀ L m s Q E B F X N T hk hd hu hret herr
  refine wpAny_call ?_
  k_dflt (refine' code_def ?k1 ?k2 ?k3 ?k4 ?k5 ?kA ?kF ?kK ?k6 ?k7 ?k8 ?k9 ?kB ?_ ?c2 ?c3 ?c4 ?c5; (case kA => exact rfl); (case kF => exact rfl); (case kK => first | exact rfl | assumption); (case k1 => k_asm); (case k2 => k_asm); (case k3 => k_asm); (case k4 => k_asm); (case k5 => k_asm); (case k6 => k_is); (case k7 => k_is); (case k8 => ktr_room); (case k9 => exact BindsTo.of_eq rfl); (case c5 => decide); (case kB => exact locs rfl); (case c2 => exact rfl); (case c3 => exact rfl); (case c4 => exact rfl); k_whole; intro g1 L1 h1 FG1 F1 N1 B1 X1 T1; (try dsimp only); (try k_lift B1); (try k_fold))
  refine foldA ?_
  intro fA
  try (have fR : Around.units fA < cLine := by (simp only [fA, Around.deeper]; omega))
  try (have fR1 : Around.units (Around.in1 fA) < cLine := by (simp only [fA, Around.deeper, Around.in1]; omega))
  refine foldE ?_
  intro fE
  (try k_fold)
  have hbs : BrkSub := ⟨⟩
  replace F1 : Fr g1 L1 h1 (fun y => List.lookup y [(Str.ofString "place", .int place tp), (Str.ofString "choices", .ref ca), (Str.ofString "bounds", .ref ba), (Str.ofString "found", .ref fl)]) := F1
  k_steps
  refine unbrk ?_
  (try k_fold)
  refine wpAny_For (hs := fun _ => rfl) ?_
  k_steps
  refine unbrk ?_
  (try k_fold)
  refine for_list (l := ca) (vs := cvs) (ln := nc) (fun i m₁ nx => ∃ (fs1 : List Int) (fvs1 : List Value), optFold (claimC lo hi place) fs (cs.take i) = some fs1 ∧ Paired IntV fvs1 fs1 ∧ nx = (fl, listOf fvs1.toArray nf) :: rest ∧
    m₁ (Str.ofString "found") = some (.ref fl) ∧ m₁ (Str.ofString "bounds") = some (.ref ba) ∧ m₁ (Str.ofString "place") = some (.int place tp)) rfl F1 N1 ?hl ?hj ?turn ?done ?hE
  case hE => with_unfolding_all passes_own
  case hl =>
    intro i m₁ nx hJ
    obtain ⟨fs1, fvs1, e1, e2, e3, e4⟩ := hJ
    rw [e3]
    exact .tail _ hca
  case hj => exact ⟨fs, fvs, rfl, hf, rfl, rfl, rfl, rfl⟩
  case turn =>
    intro i v m₁ nx h7 tk7 own hv hoff hJ F7 N7
    (try k_fold)
    obtain ⟨fs1, fvs1, e1, e2, e3, e4, e5, e6⟩ := hJ
    subst e3
    obtain ⟨c, hc, a2, n2, t2, u2, rfl, hm2⟩ := paired_get hcs hv
    have hl1 : fs1.length = fs.length := optFold_len (fun _ _ _ h => claimC_len h) e1
    have hck := hok c (List.mem_of_getElem? hc)
    have hsucc := optFold_succ (f := claimC lo hi place) (b := fs) hc
    rw [e1, Option.bind_some] at hsucc
    refine assign_pair rfl rfl rfl rfl F7 N7 (.tail _ (List.mem_append_left _ hm2)) (fun h8 tk8 F8 N8 => ?_)
    (try k_fold)
    replace F8 : Fr g1 L1 h8 _ := fr_has3 F8 (show (fun z => if z = Str.ofString "high" then some (Value.int c.2 u2) else if z = Str.ofString "low" then some (Value.int c.1 t2) else m₁ z) (Str.ofString "found") = some (.ref fl) from e4) (show (fun z => if z = Str.ofString "high" then some (Value.int c.2 u2) else if z = Str.ofString "low" then some (Value.int c.1 t2) else m₁ z) (Str.ofString "bounds") = some (.ref ba) from e5) (show (fun z => if z = Str.ofString "high" then some (Value.int c.2 u2) else if z = Str.ofString "low" then some (Value.int c.1 t2) else m₁ z) (Str.ofString "place") = some (.int place tp) from e6)
    replace N8 : News g1 L1 h8 ((fl, listOf fvs1.toArray nf) :: (rest ++ own)) := N8
    have hba1 : (ba, tupOf #[.int lo t, .int hi u] nb) ∈ (fl, listOf fvs1.toArray nf) :: (rest ++ own) := .tail _ (List.mem_append_left _ hba)
    have hbi : BrkIf := ⟨⟩
    k_steps
    refine unbrk ?_
    (try k_fold)
    refine cut_next (R := fun s' => (∃ tk', s' = { s with heap := h8, toks := tk' }) ∧ ¬ (c.1 ≤ c.2 ∧ (c.1 < lo ∨ hi < c.2))) ?first ?tail
    case first =>
      refine wpAny_If ?_
      k_steps
      · refine unbrk ?_
        (try k_fold)
        refine sub_tup (its := [_, _]) N8 hba1 (by decide) (by decide) rfl ?_
        (try k_fold)
        k_steps
        · refine unbrk ?_
          (try k_fold)
          refine' (raise_spec w loose mean mg mb) _ _ _ _ _ _ _ _ _ _ _ _ _ _ _ _ _ (by assumption) (by assumption) (by assumption) (by assumption) (by assumption) (by first | exact rfl | assumption) ?kd1 ?ku1 ?kr1 ?ke1
          case kd1 => first | omega | (dsimp only [ktrTop, Around.deeper, Around.mark, Around.in1]; omega) | exact Nat.le_of_ble_eq_true rfl
          case ku1 => first | omega | (dsimp only [ktrTop, Around.deeper, Around.mark, Around.in1]; omega) | exact Nat.le_of_ble_eq_true rfl
          case kr1 => trivial
          intro gg ee dx hh tk9 wd es nn Fg ug fl9 hw hwd
          k_steps
          refine unbrk ?_
          (try k_fold)
          refine leave_flown B1 Fg fl9 ug (fun h9 fx9 up9 => ?_)
          (try k_fold)
          exact herr g1 ee dx h9 _ wd es nn FG1 up9 (fx9.tl fun p hp => .tail _ (List.mem_append_left _ hp)) ⟨hw, optFold_none (i + 1) (hsucc.trans (if_pos ⟨by assumption, .inl (by assumption)⟩))⟩ hwd
        · refine unbrk ?_
          (try k_fold)
          refine sub_tup (its := [_, _]) N8 hba1 (by decide) (by decide) rfl ?_
          (try k_fold)
          k_steps
          · refine unbrk ?_
            (try k_fold)
            refine' (raise_spec w loose mean mg mb) _ _ _ _ _ _ _ _ _ _ _ _ _ _ _ _ _ (by assumption) (by assumption) (by assumption) (by assumption) (by assumption) (by first | exact rfl | assumption) ?kd2 ?ku2 ?kr2 ?ke2
            case kd2 => first | omega | (dsimp only [ktrTop, Around.deeper, Around.mark, Around.in1]; omega) | exact Nat.le_of_ble_eq_true rfl
            case ku2 => first | omega | (dsimp only [ktrTop, Around.deeper, Around.mark, Around.in1]; omega) | exact Nat.le_of_ble_eq_true rfl
            case kr2 => trivial
            intro gg ee dx hh tk9 wd es nn Fg ug fl9 hw hwd
            k_steps
            refine unbrk ?_
            (try k_fold)
            refine leave_flown B1 Fg fl9 ug (fun h9 fx9 up9 => ?_)
            (try k_fold)
            exact herr g1 ee dx h9 _ wd es nn FG1 up9 (fx9.tl fun p hp => .tail _ (List.mem_append_left _ hp)) ⟨hw, optFold_none (i + 1) (hsucc.trans (if_pos ⟨by assumption, .inr (by assumption)⟩))⟩ hwd
          · have q1 : ¬ c.1 < lo := by assumption
            have q2 : ¬ c.2 > hi := by assumption
            exact meet ⟨rfl, ⟨_, rfl⟩, fun h => h.2.elim q1 q2⟩
      · exact meet ⟨rfl, ⟨_, rfl⟩, fun h => absurd h.1 (by assumption)⟩
    case tail =>
      intro s2 hR
      obtain ⟨⟨tk9, e9⟩, hcond⟩ := hR
      subst e9
      k_steps
      refine unbrk ?_
      (try k_fold)
      refine wpAny_For (hs := fun _ => rfl) ?_
      k_steps
      refine unbrk ?_
      (try k_fold)
      have hcc : claimC lo hi place fs1 c = optFold (claim1 lo hi place) fs1 (rng c.1 c.2) := if_neg hcond
      obtain ⟨o1, o2, o3, o4⟩ := hck
      refine for_range (n := (c.2 + 1 - c.1).toNat) (fun k m₂ nx => ∃ (fs2 : List Int) (fvs2 : List Value), optFold (claim1 lo hi place) fs1 ((rng c.1 c.2).take k) = some fs2 ∧ Paired IntV fvs2 fs2 ∧ nx = (fl, listOf fvs2.toArray nf) :: (rest ++ own) ∧
        m₂ (Str.ofString "found") = some (.ref fl) ∧ m₂ (Str.ofString "bounds") = some (.ref ba) ∧ m₂ (Str.ofString "place") = some (.int place tp)) rfl (by assumption) (small_one (by omega) (by omega) (by omega) (by omega)) (rangeSize_nat _ _) (by assumption) (by assumption) ⟨fs1, fvs1, rfl, e2, rfl, rfl, rfl, rfl⟩ ?turn2 ?done2 ?hE2
      case hE2 => with_unfolding_all passes_own
      case turn2 =>
        intro k tk2 m₂ nx h10 tk10 own2 hk2 hoff2 hJ2 F10 N10
        (try k_fold)
        obtain ⟨fs2, fvs2, r1, r2, r3, r4, r5, r6⟩ := hJ2
        subst r3
        have hl2 : fs2.length = fs1.length := optFold_len (fun _ _ _ h => claim1_len h) r1
        have hs2 := optFold_succ (f := claim1 lo hi place) (b := fs1) (rng_get hk2)
        rw [r1, Option.bind_some] at hs2
        replace F10 : Fr g1 L1 h10 _ := fr_has3 F10 r4 r5 r6
        replace N10 : News g1 L1 h10 ((fl, listOf fvs2.toArray nf) :: ((rest ++ own) ++ own2)) := N10
        have hne2 : ∀ p ∈ (rest ++ own) ++ own2, p.1 ≠ fl := by
          refine List.forall_mem_append.mpr ⟨List.forall_mem_append.mpr ⟨hne, fun p hp => Ne.symm (hoff _ (.head _) p hp)⟩, fun p hp => Ne.symm (hoff2 _ (.head _) p hp)⟩
        k_steps
        refine unbrk ?_
        (try k_fold)
        refine' (claim_spec w loose mean mg mb (rest := (rest ++ own) ++ own2) (List.mem_append_left _ (List.mem_append_left _ hba)) hne2 r2 (by omega) (by omega)) _ _ _ _ _ _ _ _ _ _ _ _ _ _ _ _ _ (by assumption) (by assumption) (by assumption) (by assumption) (by assumption) (by first | exact rfl | assumption) ?kd3 ?ku3 ?kr3 ?ke3
        case kd3 => first | omega | (dsimp only [ktrTop, Around.deeper, Around.mark, Around.in1]; omega) | exact Nat.le_of_ble_eq_true rfl
        case ku3 => first | omega | (dsimp only [ktrTop, Around.deeper, Around.mark, Around.in1]; omega) | exact Nat.le_of_ble_eq_true rfl
        case kr3 =>
          intro p1 p2 p3 h11 tk11 F11 N11
          obtain ⟨x, hx, hx0⟩ := p3
          k_steps
          exact ⟨h11, _, _, (fl, listOf (fvs2.set (c.1 + (k : Int) - lo).toNat (.int place tp)).toArray nf) :: (rest ++ own), rfl, F11, N11, fun q hq p hp => by
            rcases List.mem_cons.mp hq with rfl | hq
            · exact hoff2 (fl, listOf fvs2.toArray nf) (.head _) p hp
            · exact hoff2 q (.tail _ hq) p hp, _, _, hs2.trans (claim1_some p1 p2 hx hx0), paired_set ⟨_, rfl⟩ _ r2, rfl, rfl, rfl, rfl⟩
        case ke3 =>
          intro gg ee dx hh tk9 wd es nn Fg ug fl9 hw hwd
          k_steps
          refine unbrk ?_
          (try k_fold)
          refine leave_flown B1 Fg fl9 ug (fun h9 fx9 up9 => ?_)
          (try k_fold)
          exact herr g1 ee dx h9 _ wd es nn FG1 up9 (fx9.tl fun p hp => List.mem_append_left _ (List.mem_append_left _ hp)) ⟨hw.1, optFold_none (i + 1) (hsucc.trans (hcc.trans (optFold_none (k + 1) (hs2.trans (claim1_none hw.2)))))⟩ hwd
      case done2 =>
        intro m₂ nx h10 tk10 hJ2 F10 N10
        (try k_fold)
        obtain ⟨fs2, fvs2, r1, r2, r3, r4, r5, r6⟩ := hJ2
        subst r3
        k_steps
        have hrl : (rng c.1 c.2).length = (c.2 + 1 - c.1).toNat := by unfold rng; simp
        rw [List.take_of_length_le (Nat.le_of_eq hrl)] at r1
        exact ⟨h10, _, _, _, rfl, F10, N10, fun q hq p hp => by
          rcases List.mem_cons.mp hq with rfl | hq
          · exact hoff (fl, listOf fvs1.toArray nf) (.head _) p hp
          · exact hoff q (.tail _ hq) p hp, fs2, fvs2, hsucc.trans (hcc.trans r1), r2, rfl, r4, r5, r6⟩
  case done =>
    intro m₁ nx h7 tk7 hJ F7 N7
    (try k_fold)
    obtain ⟨fs1, fvs1, e1, e2, e3, e4, e5, e6⟩ := hJ
    subst e3
    replace F7 : Fr g1 L1 h7 _ := F7
    replace N7 : News g1 L1 h7 _ := N7
    k_steps
    rw [List.take_of_length_le (Nat.le_of_eq (paired_length hcs).symm)] at e1
    exact hret fs1 fvs1 _ _ e1 e2 (by assumption) (by assumption)
end
section
def SpJ (fl ba pl : Addr) (r0 : Led) (st : Option (List Int × Int × Int)) (m : Str → Option Value) (nx : Led) : Prop :=
  ∃ (fs : List Int) (fvs : List Value) (idx rst : Int) (ti tr : Tok), st = some (fs, idx, rst) ∧ Paired IntV fvs fs ∧ nx = (fl, listOf fvs.toArray 0) :: r0 ∧
    m (Str.ofString "found") = some (.ref fl) ∧ m (Str.ofString "bounds") = some (.ref ba) ∧ m (Str.ofString "parts") = some (.ref pl) ∧ m (Str.ofString "index") = some (.int idx ti) ∧ m (Str.ofString "rest") = some (.int rst tr)
theorem sp_close {h₀ h' : Heap} {L fl ba pl : Addr} {r0 own : Led} {st : Option (List Int × Int × Int)} {m' : Str → Option Value} {s : Shared} {Q : Flow → Shared → Prop} {fs : List Int} {fvs fvs0 : List Value} {idx rst : Int} {ti tr : Tok} {tk : Nat}
    (hoff : ∀ q ∈ (fl, listOf fvs0.toArray 0) :: r0, ∀ p ∈ own, q.1 ≠ p.1) (F : Fr h₀ L h' m') (N : News h₀ L h' ((fl, listOf fvs.toArray 0) :: (r0 ++ own))) (hst : st = some (fs, idx, rst)) (hf : Paired IntV fvs fs)
    (h1 : m' (Str.ofString "found") = some (.ref fl)) (h2 : m' (Str.ofString "bounds") = some (.ref ba)) (h3 : m' (Str.ofString "parts") = some (.ref pl)) (h4 : m' (Str.ofString "index") = some (.int idx ti)) (h5 : m' (Str.ofString "rest") = some (.int rst tr)) :
    TurnOut h₀ L own (SpJ fl ba pl r0 st) s Q .next { s with heap := h', toks := tk } :=
  ⟨h', tk, m', (fl, listOf fvs.toArray 0) :: r0, rfl, F, N, fun q hq p hp => by
    rcases List.mem_cons.mp hq with rfl | hq
    · exact hoff (fl, listOf fvs0.toArray 0) (.head _) p hp
    · exact hoff q (.tail _ hq) p hp, fs, fvs, idx, rst, ti, tr, hst, hf, rfl, h1, h2, h3, h4, h5⟩

set_option maxHeartbeats 8000000 in
theorem spread_spec (w : World) (loose : List Str) (mean : ExcName → Option Value) (mg mb : Str → Option Value) {led : Led} {ba pl lx : Addr} {nb np : Nat} {refs : List Value} {ps : List Pt} {lo hi mem : Int} {t u : Tok}
    (hba : (ba, tupOf #[.int lo t, .int hi u] nb) ∈ led) (hm : (pl, listOf refs.toArray np) ∈ led) (hp : Paired (PtIn led) refs ps) (hok : ∀ p ∈ ps, ∀ cs, p = .named cs → ∀ c ∈ cs, ChOk c) (hl10 : ps.length ≤ 10) (hlim : LimIn led lx mem) (hbig : hi - lo ≤ 100) :
    CallsE w loose mean mg mb 8 123 [.ref ba, .ref pl, .ref lx] led led
      (fun h₀ L m s Q => ∀ fl fs fvs nf tl' h' tk', dimL lo hi ≤ mem → spreadF ps lo hi = some fs → Paired IntV fvs fs → Fr h₀ L h' m → News h₀ L h' ((fl, listOf fvs.toArray nf) :: (tl' ++ led)) → Q (.ref fl) { s with heap := h', toks := tk' })
      (fun wd => (wd = Str.ofString "storage_error" ∧ ¬ dimL lo hi ≤ mem) ∨ (wd = Str.ofString "constraint_error" ∧ dimL lo hi ≤ mem ∧ spreadF ps lo hi = none)) := by
  unfold CallsE
  k_fill
  intro dp un gd cn cs' a ccd cl outer A₀ base h₀ L m s Q E B F X N T hk hd hu hret herr
  refine wpAny_call ?_
  k_dflt (refine' code_def ?k1 ?k2 ?k3 ?k4 ?k5 ?kA ?kF ?kK ?k6 ?k7 ?k8 ?k9 ?kB ?_ ?c2 ?c3 ?c4 ?c5; (case kA => exact rfl); (case kF => exact rfl); (case kK => first | exact rfl | assumption); (case k1 => k_asm); (case k2 => k_asm); (case k3 => k_asm); (case k4 => k_asm); (case k5 => k_asm); (case k6 => k_is); (case k7 => k_is); (case k8 => ktr_room); (case k9 => exact BindsTo.of_eq rfl); (case c5 => decide); (case kB => exact locs rfl); (case c2 => exact rfl); (case c3 => exact rfl); (case c4 => exact rfl); k_whole; intro g1 L1 h1 FG1 F1 N1 B1 X1 T1; (try dsimp only); (try k_lift B1); (try k_fold))
  refine foldA ?_
  intro fA
  try (have fR : Around.units fA < cLine := by (simp only [fA, Around.deeper]; omega))
  try (have fR1 : Around.units (Around.in1 fA) < cLine := by (simp only [fA, Around.deeper, Around.in1]; omega))
  refine foldE ?_
  intro fE
  (try k_fold)
  have hbs : BrkSub := ⟨⟩
  have hll := paired_length hp
  have hdl : 0 ≤ dimL lo hi ∧ dimL lo hi ≤ 101 := by unfold dimL; split <;> omega
  replace F1 : Fr g1 L1 h1 (fun y => List.lookup y [(Str.ofString "limits", .ref lx), (Str.ofString "parts", .ref pl), (Str.ofString "bounds", .ref ba)]) := F1
  k_steps
  refine unbrk ?_
  (try k_fold)
  rename_i q2 h2 l2 q3 h3 F3 N3 l3
  refine' (size_spec w loose mean mg mb (led := (q3, listOf [Value.ref ba].toArray 0) :: (q2, _) :: led) (.head _) (.tail _ (.tail _ hba)) (hlim.mono fun p hp => .tail _ (.tail _ hp))) _ _ _ _ _ _ _ _ _ _ _ _ _ _ _ _ _ (by assumption) (by assumption) (by assumption) (by assumption) (by assumption) (by first | exact rfl | assumption) ?kd1 ?ku1 ?kr1 ?ke1
  case kd1 => first | omega | (dsimp only [ktrTop, Around.deeper, Around.mark, Around.in1]; omega) | exact Nat.le_of_ble_eq_true rfl
  case ku1 => first | omega | (dsimp only [ktrTop, Around.deeper, Around.mark, Around.in1]; omega) | exact Nat.le_of_ble_eq_true rfl
  case ke1 =>
    intro gg ee dx hh tk9 wd es nn Fg ug fl9 hw hwd
    k_steps
    refine unbrk ?_
    (try k_fold)
    refine leave_flown B1 Fg fl9 ug (fun h9 fx9 up9 => ?_)
    (try k_fold)
    exact herr g1 ee dx h9 _ wd es nn FG1 up9 (fx9.tl fun p hp => .tail _ (.tail _ hp)) (.inl hw) hwd
  case kr1 =>
    intro hmem h4 tk4 tr4 F4 N4
    k_steps
    refine unbrk ?_
    (try k_fold)
    refine KMa.mul F4 N4 (isList_of N4 (.tail _ (.head _))) (by omega) (by omega) (by simp; omega) (lm_rep_flat_one _ _) (fun fl h5 F5 N5 l5 => ?_)
    (try k_fold)
    obtain ⟨tl0, fvs0, hf0, N5', hne0⟩ : ∃ (tl0 : Led) (fvs0 : List Value), Paired IntV fvs0 (List.replicate (dimL lo hi).toNat (-1)) ∧ News g1 L1 h5 ((fl, listOf fvs0.toArray 0) :: (tl0 ++ led)) ∧ ∀ p ∈ tl0 ++ led, p.1 ≠ fl :=
      ⟨[(q3, _), (q2, _)], _, paired_rep _ ⟨_, rfl⟩, N5, fun p hp => Nat.ne_of_lt (l5 p hp)⟩
    replace N5 := N5'
    have hin : ∀ p ∈ led, p ∈ (fl, listOf fvs0.toArray 0) :: (tl0 ++ led) := fun p hp => .tail _ (List.mem_append_right _ hp)
    k_steps
    refine unbrk ?_
    (try k_fold)
    refine sub_tup (its := [_, _]) (by assumption) (hin _ hba) (by decide) (by decide) rfl ?_
    (try k_fold)
    have hpl1 : (pl, listOf refs.toArray np) ∈ (fl, listOf fvs0.toArray 0) :: (tl0 ++ led) := hin _ hm
    k_steps
    refine unbrk ?_
    (try k_fold)
    refine wpAny_For (hs := fun _ => rfl) ?_
    k_steps
    refine unbrk ?_
    (try k_fold)
    refine for_range (n := ((refs.length : Int) - 0).toNat) (fun i => SpJ fl ba pl (tl0 ++ led) (optFold (spStep ps lo hi) (List.replicate (dimL lo hi).toNat (-1), lo, -1) (List.range i))) rfl (by assumption) (small_one (by omega) (by omega) (by omega) (by omega)) (rangeSize_nat _ _) (by assumption) (by assumption) ⟨_, fvs0, _, _, _, _, rfl, hf0, rfl, rfl, rfl, rfl, rfl, rfl⟩ ?turn ?done ?hE
    case hE => with_unfolding_all passes_own
    case turn =>
      intro i ti m₁ nx h7 tk7 own hi7 hoff hJ F7 N7
      (try k_fold)
      obtain ⟨fs1, fvs1, idx, rst, tx, tr, e1, e2, e3, f1, f2, f3, f4, f5⟩ := hJ
      subst e3
      have hi8 : i < ps.length := by omega
      have hlf : fs1.length = (dimL lo hi).toNat := by
        have := spFold_len e1
        rw [this, List.length_replicate]
      have hln : (fs1.length : Int) = hi - lo + 1 ∨ hi < lo := by
        rw [hlf]
        unfold dimL
        split <;> omega
      have hsucc : optFold (spStep ps lo hi) (List.replicate (dimL lo hi).toNat (-1), lo, -1) (List.range (i + 1)) = spStep ps lo hi (fs1, idx, rst) i := by
        have := optFold_succ (f := spStep ps lo hi) (b := (List.replicate (dimL lo hi).toNat (-1), lo, -1)) (range_get hi8)
        rw [range_take _ _ (by omega), range_take _ _ (by omega), e1] at this
        exact this
      have hnone : spStep ps lo hi (fs1, idx, rst) i = none → spreadF ps lo hi = none := fun hz => by
        unfold spreadF spread1
        rw [optFold_none (i + 1) (by rw [range_take _ _ (by omega)]; exact hsucc.trans hz)]
        rfl
      obtain ⟨p, hpi⟩ : ∃ p, ps[i]? = some p := ⟨_, List.getElem?_eq_getElem hi8⟩
      obtain ⟨vr, hvr, a1, n1, vc1, x1, t1, rfl, hm1, hc1⟩ := paired_get' hp hpi
      have hok1 := hok p (List.mem_of_getElem? hpi)
      replace F7 : Fr g1 L1 h7 _ := fr_has (x := Str.ofString "rest") (v := .int rst tr) (fr_has (x := Str.ofString "index") (v := .int idx tx) (fr_has3 F7 f1 f2 f3) f4) f5
      replace N7 : News g1 L1 h7 ((fl, listOf fvs1.toArray 0) :: ((tl0 ++ led) ++ own)) := N7
      have hne1 : ∀ p ∈ (tl0 ++ led) ++ own, p.1 ≠ fl := List.forall_mem_append.mpr ⟨hne0, fun p hp => Ne.symm (hoff (fl, listOf fvs1.toArray 0) (.head _) p hp)⟩
      have hin1 : ∀ p ∈ led, p ∈ (tl0 ++ led) ++ own := fun p hp => List.mem_append_left _ (List.mem_append_right _ hp)
      rw [Int.zero_add]
      k_steps
      refine unbrk ?_
      (try k_fold)
      refine sub_at (by assumption) (.tail _ (hin1 _ hm)) (by omega) (by omega) (by rw [Int.toNat_natCast]; exact hvr) ?_
      (try k_fold)
      k_steps
      refine unbrk ?_
      (try k_fold)
      refine sub_tup (its := [vc1, _]) (by assumption) (.tail _ (hin1 _ hm1)) (by decide) (by decide) rfl ?_
      (try k_fold)
      cases p with
      | pos =>
        obtain rfl : vc1 = .none := hc1
        have hstep : spStep ps lo hi (fs1, idx, rst) i = (claim1 lo hi i fs1 idx).map fun fs => (fs, idx + 1, rst) := by
          unfold spStep
          rw [hpi]
        k_steps
        refine unbrk ?_
        (try k_fold)
        refine' (claim_spec w loose mean mg mb (rest := (tl0 ++ led) ++ own) (hin1 _ hba) hne1 e2 hln (by omega)) _ _ _ _ _ _ _ _ _ _ _ _ _ _ _ _ _ (by assumption) (by assumption) (by assumption) (by assumption) (by assumption) (by first | exact rfl | assumption) ?kd2 ?ku2 ?kr2 ?ke2
        case kd2 => first | omega | (dsimp only [ktrTop, Around.deeper, Around.mark, Around.in1]; omega) | exact Nat.le_of_ble_eq_true rfl
        case ku2 => first | omega | (dsimp only [ktrTop, Around.deeper, Around.mark, Around.in1]; omega) | exact Nat.le_of_ble_eq_true rfl
        case kr2 =>
          intro p1 p2 p3 h11 tk11 F11 N11
          obtain ⟨x, hx, hx0⟩ := p3
          k_steps
          exact sp_close hoff (by assumption) (by assumption) (hsucc.trans (hstep.trans (congrArg _ (claim1_some p1 p2 hx hx0)))) (paired_set ⟨_, rfl⟩ _ e2) rfl rfl rfl rfl rfl
        case ke2 =>
          intro gg ee dx hh tk9 wd es nn Fg ug fl9 hw hwd
          k_steps
          refine unbrk ?_
          (try k_fold)
          refine leave_flown B1 Fg fl9 ug (fun h9 fx9 up9 => ?_)
          (try k_fold)
          exact herr g1 ee dx h9 _ wd es nn FG1 up9 (fx9.tl fun p hp => List.mem_append_left _ (List.mem_append_right _ hp)) (.inr ⟨hw.1, hmem, hnone (hstep.trans (congrArg _ (claim1_none hw.2)))⟩) hwd
      | named cs =>
        have hstep : spStep ps lo hi (fs1, idx, rst) i = (claimCs lo hi i fs1 cs).map fun fs => (fs, idx, rst) := by
          unfold spStep
          rw [hpi]
        obtain ⟨lc, nc, vcs, rfl, hmc, hpc⟩ := hc1
        k_steps
        refine cho_eq (p := .named cs) (by assumption) (ChsIn.mono ⟨lc, nc, vcs, rfl, hmc, hpc⟩ fun p hp => .tail _ (hin1 p hp)) (by walk_at "my room") ?_
        rw [show (Pt.named cs).isOth = false from rfl]
        (try k_fold)
        k_steps
        refine unbrk ?_
        (try k_fold)
        refine' (claims_spec w loose mean mg mb (rest := (tl0 ++ led) ++ own) (hin1 _ hba) (hin1 _ hmc) (paired_mono (fun _ _ x => x.mono hin1) hpc) (hok1 cs rfl) hne1 e2 hln (by omega)) _ _ _ _ _ _ _ _ _ _ _ _ _ _ _ _ _ (by assumption) (by assumption) (by assumption) (by assumption) (by assumption) (by first | exact rfl | assumption) ?kd3 ?ku3 ?kr3 ?ke3
        case kd3 => first | omega | (dsimp only [ktrTop, Around.deeper, Around.mark, Around.in1]; omega) | exact Nat.le_of_ble_eq_true rfl
        case ku3 => first | omega | (dsimp only [ktrTop, Around.deeper, Around.mark, Around.in1]; omega) | exact Nat.le_of_ble_eq_true rfl
        case kr3 =>
          intro fs2 fvs2 h11 tk11 hcl e22 F11 N11
          k_steps
          exact sp_close hoff (by assumption) (by assumption) (hsucc.trans (hstep.trans (congrArg _ hcl))) e22 rfl rfl rfl rfl rfl
        case ke3 =>
          intro gg ee dx hh tk9 wd es nn Fg ug fl9 hw hwd
          k_steps
          refine unbrk ?_
          (try k_fold)
          refine leave_flown B1 Fg fl9 ug (fun h9 fx9 up9 => ?_)
          (try k_fold)
          exact herr g1 ee dx h9 _ wd es nn FG1 up9 (fx9.tl fun p hp => List.mem_append_left _ (List.mem_append_right _ hp)) (.inr ⟨hw.1, hmem, hnone (hstep.trans (congrArg _ hw.2))⟩) hwd
      | others =>
        obtain ⟨to, rfl⟩ := hc1
        have hstep : spStep ps lo hi (fs1, idx, rst) i = some (fs1, idx, (i : Int)) := by
          unfold spStep
          rw [hpi]
        k_steps
        exact sp_close hoff (by assumption) (by assumption) (hsucc.trans hstep) e2 rfl rfl rfl rfl rfl
    case done =>
      intro m₁ nx h7 tk7 hJ F7 N7
      (try k_fold)
      obtain ⟨fs1, fvs1, idx, rst, tx, tr, e1, e2, e3, f1, f2, f3, f4, f5⟩ := hJ
      subst e3
      replace F7 : Fr g1 L1 h7 _ := fr_has (x := Str.ofString "rest") (v := .int rst tr) (fr_has (x := Str.ofString "index") (v := .int idx tx) (fr_has3 F7 f1 f2 f3) f4) f5
      replace N7 : News g1 L1 h7 ((fl, listOf fvs1.toArray 0) :: (tl0 ++ led)) := N7
      have hlf : fs1.length = (dimL lo hi).toNat := by
        have := spFold_len e1
        rw [this, List.length_replicate]
      have hlv : fvs1.length = fs1.length := paired_length e2
      rw [show ((refs.length : Int) - 0).toNat = ps.length by omega] at e1
      have hspr : spreadF ps lo hi = optFold (fillStep rst) fs1 (List.range fs1.length) := by
        unfold spreadF spread1
        rw [e1]
        rfl
      have hfl1 : (fl, listOf fvs1.toArray 0) ∈ (fl, listOf fvs1.toArray 0) :: (tl0 ++ led) := .head _
      k_steps
      refine unbrk ?_
      (try k_fold)
      refine wpAny_For (hs := fun _ => rfl) ?_
      k_steps
      refine unbrk ?_
      (try k_fold)
      refine for_range (n := ((fvs1.length : Int) - 0).toNat) (fun i m₂ nx => ∃ (fs2 : List Int) (fvs2 : List Value), optFold (fillStep rst) fs1 (List.range i) = some fs2 ∧ Paired IntV fvs2 fs2 ∧ nx = (fl, listOf fvs2.toArray 0) :: (tl0 ++ led) ∧ m₂ (Str.ofString "found") = some (.ref fl) ∧ m₂ (Str.ofString "rest") = some (.int rst tr)) rfl (by assumption) (small_one (by omega) (by omega) (by omega) (by omega)) (rangeSize_nat _ _) (by assumption) (by assumption) ⟨fs1, fvs1, rfl, e2, rfl, rfl, rfl⟩ ?turn2 ?done2 ?hE2
      case hE2 => with_unfolding_all passes_own
      case turn2 =>
        intro i ti m₂ nx h8 tk8 own hi7 hoff hJ2 F8 N8
        (try k_fold)
        obtain ⟨fs2, fvs2, r1, r2, r3, r4, r5⟩ := hJ2
        subst r3
        have hl2 : fs2.length = fs1.length := optFold_len (fun _ _ _ h => fillStep_len h) r1
        have hlv2 : fvs2.length = fs2.length := paired_length r2
        have hi8 : i < fs1.length := by omega
        have hsucc : optFold (fillStep rst) fs1 (List.range (i + 1)) = fillStep rst fs2 i := by
          have := optFold_succ (f := fillStep rst) (b := fs1) (range_get hi8)
          rw [range_take _ _ (by omega), range_take _ _ (by omega), r1] at this
          exact this
        obtain ⟨x, hx⟩ : ∃ x, fs2[i]? = some x := ⟨_, List.getElem?_eq_getElem (by omega)⟩
        obtain ⟨vx, hvx, tx9, rfl⟩ := paired_get' r2 hx
        replace F8 : Fr g1 L1 h8 _ := fr_has (x := Str.ofString "rest") (v := .int rst tr) (fr_has (x := Str.ofString "found") (v := .ref fl) F8 r4) r5
        replace N8 : News g1 L1 h8 ((fl, listOf fvs2.toArray 0) :: ((tl0 ++ led) ++ own)) := N8
        have hne1 : ∀ p ∈ (tl0 ++ led) ++ own, p.1 ≠ fl := List.forall_mem_append.mpr ⟨hne0, fun p hp => Ne.symm (hoff (fl, listOf fvs2.toArray 0) (.head _) p hp)⟩
        rw [Int.zero_add]
        k_steps
        refine unbrk ?_
        (try k_fold)
        refine sub_at (by assumption) (.head _) (by omega) (by omega) (by rw [Int.toNat_natCast]; exact hvx) ?_
        (try k_fold)
        k_steps
        · refine unbrk ?_
          (try k_fold)
          have q1 : x < 0 := by assumption
          have q2 : rst < 0 := by assumption
          have hfn : fillStep rst fs2 i = none := by
            unfold fillStep
            rw [hx]
            dsimp only
            rw [if_pos q1, if_pos q2]
          refine' (raise_spec w loose mean mg mb) _ _ _ _ _ _ _ _ _ _ _ _ _ _ _ _ _ (by assumption) (by assumption) (by assumption) (by assumption) (by assumption) (by first | exact rfl | assumption) ?kd4 ?ku4 ?kr4 ?ke4
          case kd4 => first | omega | (dsimp only [ktrTop, Around.deeper, Around.mark, Around.in1]; omega) | exact Nat.le_of_ble_eq_true rfl
          case ku4 => first | omega | (dsimp only [ktrTop, Around.deeper, Around.mark, Around.in1]; omega) | exact Nat.le_of_ble_eq_true rfl
          case kr4 => trivial
          intro gg ee dx hh tk9 wd es nn Fg ug fl9 hw hwd
          k_steps
          refine unbrk ?_
          (try k_fold)
          refine leave_flown B1 Fg fl9 ug (fun h9 fx9 up9 => ?_)
          (try k_fold)
          exact herr g1 ee dx h9 _ wd es nn FG1 up9 (fx9.tl fun p hp => .tail _ (List.mem_append_left _ (List.mem_append_right _ hp))) (.inr ⟨hw, hmem, hspr.trans (optFold_none (i + 1) (by rw [range_take _ _ (by omega)]; exact hsucc.trans hfn))⟩) hwd
        · refine unbrk ?_
          (try k_fold)
          have q1 : x < 0 := by assumption
          have q2 : ¬ rst < 0 := by assumption
          have hfn : fillStep rst fs2 i = some (fs2.set i rst) := by
            unfold fillStep
            rw [hx]
            dsimp only
            rw [if_pos q1, if_neg q2]
          refine set_led (by assumption) (by assumption) hne1 (by omega) (by omega) (by omega) (fun h11 F11 N11 => ?_)
          rw [Int.toNat_natCast] at N11
          (try k_fold)
          k_steps
          exact ⟨h11, _, _, (fl, listOf (fvs2.set i (.int rst tr)).toArray 0) :: (tl0 ++ led), rfl, F11, N11, fun q hq p hp => by
            rcases List.mem_cons.mp hq with rfl | hq
            · exact hoff (fl, listOf fvs2.toArray 0) (.head _) p hp
            · exact hoff q (.tail _ hq) p hp, _, _, hsucc.trans hfn, paired_set ⟨_, rfl⟩ _ r2, rfl, rfl, rfl⟩
        · have q1 : ¬ x < 0 := by assumption
          have hfn : fillStep rst fs2 i = some fs2 := by
            unfold fillStep
            rw [hx]
            dsimp only
            rw [if_neg q1]
          (with_reducible rename Fr _ _ _ _ => F11)
          (with_reducible rename News _ _ _ _ => N11)
          exact ⟨_, _, _, (fl, listOf fvs2.toArray 0) :: (tl0 ++ led), rfl, F11, N11, hoff, _, _, hsucc.trans hfn, r2, rfl, rfl, rfl⟩
      case done2 =>
        intro m₂ nx h8 tk8 hJ2 F8 N8
        (try k_fold)
        obtain ⟨fs2, fvs2, r1, r2, r3, r4, r5⟩ := hJ2
        subst r3
        replace F8 : Fr g1 L1 h8 _ := fr_has (x := Str.ofString "rest") (v := .int rst tr) (fr_has (x := Str.ofString "found") (v := .ref fl) F8 r4) r5
        replace N8 : News g1 L1 h8 ((fl, listOf fvs2.toArray 0) :: (tl0 ++ led)) := N8
        rw [show ((fvs1.length : Int) - 0).toNat = fs1.length by omega] at r1
        k_steps
        exact hret fl fs2 fvs2 0 tl0 _ _ hmem (hspr.trans r1) r2 (by assumption) (by assumption)
end
section
def spreadO (ps : List Pt) (lo hi mem : Int) : Str ⊕ List Int :=
  if dimL lo hi ≤ mem then (match spreadF ps lo hi with | some fs => .inr fs | none => .inl (Str.ofString "constraint_error")) else .inl (Str.ofString "storage_error")
def SprIn (led : Led) (v : Value) : Str ⊕ List Int → Prop
  | .inl wd => ∃ t, v = .str wd t
  | .inr fs => ∃ a n vs, v = .ref a ∧ (a, listOf vs.toArray n) ∈ led ∧ Paired IntV vs fs

set_option maxHeartbeats 8000000 in
theorem lspread_spec (w : World) (loose : List Str) (mean : ExcName → Option Value) (mg mb : Str → Option Value) {led : Led} {ba pl lx : Addr} {nb np : Nat} {refs : List Value} {ps : List Pt} {lo hi mem : Int} {t u : Tok}
    (hba : (ba, tupOf #[.int lo t, .int hi u] nb) ∈ led) (hm : (pl, listOf refs.toArray np) ∈ led) (hp : Paired (PtIn led) refs ps) (hok : ∀ p ∈ ps, ∀ cs, p = .named cs → ∀ c ∈ cs, ChOk c) (hl10 : ps.length ≤ 10) (hlim : LimIn led lx mem) (hbig : hi - lo ≤ 100) :
    ∀ (dp un : Nat) (gd : Option (List Code)) (cn : Str) (cs : Scope) (a : Addr) (ccd : Value) (A₀ : Around) (base h₀ : Heap) (L : Addr) (m : Str → Option Value) (s : Shared) (Q E : Value → Shared → Prop),
    Below A₀ base [] h₀ → Fr h₀ L s.heap m → (Mine.hd.heap_39 w.params).In h₀ → News h₀ L s.heap led → Top Mine.view loose mean mg mb h₀ → (Mine.hd.heap_39 w.params).In base → Top Mine.view loose mean mg mb base → cs.kind = .function → dp + 10 < recursionLimit → un + 100 * 10 < cLine →
    (∀ v tl' h' tk', Fr h₀ L h' m → News h₀ L h' (tl' ++ led) → SprIn (tl' ++ led) v (spreadO ps lo hi mem) → Q v { s with heap := h', toks := tk' }) →
    wpAny (model PySem.Challenge.rw_pb0005_01.row.prog w) (ktrTop dp un gd cn cs L a ccd [] []) (call (.ref 200) [.ref ba, .ref pl, .ref lx]) Q E s := by
  k_fill
  intro dp un gd cn cs' a ccd A₀ base h₀ L m s Q E B F X N T XB TB hk hd hu hret
  refine wpAny_call ?_
  k_dflt (refine' code_defS0 ?k1 ?k2 ?k3 ?k4 ?k5 ?kA ?k6 ?k7 ?k8 ?k9 ?kB ?_ ?cK ?c2 ?c3 ?c4 ?c5; (case kA => exact rfl); (case k2 => k_asm); (case k1 => k_asm); (case k3 => k_asm); (case k4 => k_asm); (case k5 => k_asm); (case k6 => k_is); (case k7 => k_is); (case k8 => ktr_room); (case k9 => exact BindsTo.of_eq rfl); (case kB => exact locs rfl); (case cK => first | exact rfl | assumption); (case c2 => exact rfl); (case c3 => exact rfl); (case c4 => exact rfl); (case c5 => decide); k_whole; intro g1 L1 h1 FG1 F1 N1 B1 X1 T1 D1; (try dsimp only); (try k_lift B1); (try k_fold))
  refine foldA ?_
  intro fA
  try (have fR : Around.units fA < cLine := by (simp only [fA, Around.deeper]; omega))
  try (have fR1 : Around.units (Around.in1 fA) < cLine := by (simp only [fA, Around.deeper, Around.in1]; omega))
  refine foldE ?_
  intro fE
  (try k_fold)
  replace F1 : Fr g1 L1 h1 (fun y => List.lookup y [(Str.ofString "limits", .ref lx), (Str.ofString "parts", .ref pl), (Str.ofString "bounds", .ref ba)]) := F1
  k_steps
  refine unbrk ?_
  (try k_fold)
  refine' (spread_spec w loose mean mg mb hba hm hp hok hl10 hlim hbig) _ _ _ _ _ _ _ _ _ _ _ _ _ _ _ _ _ (by assumption) (by assumption) (by assumption) (by assumption) (by assumption) (by first | exact rfl | assumption) ?kd1 ?ku1 ?kr1 ?ke1
  case kd1 => first | omega | (dsimp only [ktrTop, Around.deeper, Around.mark, Around.in1]; omega) | exact Nat.le_of_ble_eq_true rfl
  case ku1 => first | omega | (dsimp only [ktrTop, Around.deeper, Around.mark, Around.in1]; omega) | exact Nat.le_of_ble_eq_true rfl
  case kr1 =>
    intro fl fs fvs nf tl' h2 tk2 hmem hsp hf F2 N2
    k_steps
    refine hret (.ref fl) ((fl, listOf fvs.toArray nf) :: tl') _ _ (by assumption) (by assumption) ?_
    unfold spreadO
    rw [if_pos hmem, hsp]
    exact ⟨fl, nf, fvs, rfl, .head _, hf⟩
  case ke1 =>
    intro gg ee dx hh tk9 wd es nn Fg ug fl9 hw hwd
    refine caught_exc fl9 Fg B1 ug XB TB D1 KtsTurn.refl (by k_is) rfl (fun h2 g2 oe ws tk2 T2 F2 N2 hoc hod hof K2 X2 TT2 D2 => ?_)
    (try k_fold)
    k_steps
    obtain ⟨tw, hw2⟩ := hwd
    have I2 : InstAt h2 ee oe 51 (some (dictOf es nn)) := ⟨(N2 _ (.head _)).1, hoc, by
      obtain ⟨_, _, dt, _⟩ := oe
      cases hof
      rfl, by
      rw [hod]
      exact (N2 _ (.tail _ (.head _))).1⟩
    refine get_exc (X2.keeps F2.keep) I2 (by k_is) (by k_is) (by k_is) (findObj_own (by k_is) (by k_is) rfl hw2) rfl ?_
    (try k_fold)
    k_steps
    refine hret (.str wd tw) [(ee, oe), (dx, dictOf es nn)] _ _ (by assumption) (by assumption) ?_
    unfold spreadO
    rcases hw with ⟨rfl, q1⟩ | ⟨rfl, q1, q2⟩
    · rw [if_neg q1]
      exact ⟨tw, rfl⟩
    · rw [if_pos q1, q2]
      exact ⟨tw, rfl⟩
end
section
theorem fr_over {h₀ h : Heap} {L : Addr} {m : Str → Option Value} {x : Str} {v v' : Option Value} (F : Fr h₀ L h (fun z => if z = x then v else if z = x then v' else m z)) : Fr h₀ L h (fun z => if z = x then v else m z) := fr_eq F fun y => by
  by_cases hy : y = x
  · rw [if_pos hy, if_pos hy]
  · rw [if_neg hy, if_neg hy, if_neg hy]
def inC (idx : Int) (c : Int × Int) : Bool := decide (c.1 ≤ idx ∧ idx ≤ c.2)
def tkr (l : List (Int × List (Int × Int))) (idx : Int) : List Int := l.flatMap fun x => (x.2.filter fun c => decide (c.1 ≤ idx ∧ idx ≤ c.2)).map fun _ => x.1
theorem tkr_succ {l : List (Int × List (Int × Int))} {idx : Int} {j : Nat} {x : Int × List (Int × Int)} (h : l[j]? = some x) : tkr (l.take (j + 1)) idx = tkr (l.take j) idx ++ (x.2.filter (inC idx)).map fun _ => x.1 := by
  unfold tkr
  rw [List.take_succ, h, List.flatMap_append, Option.toList_some, List.flatMap_singleton]
  rfl
theorem take_filter_in {l : List (Int × Int)} {idx : Int} {j : Nat} {c : Int × Int} {z : Int} (h : l[j]? = some c) (hc : inC idx c = true) : ((l.take (j + 1)).filter (inC idx)).map (fun _ => z) = ((l.take j).filter (inC idx)).map (fun _ => z) ++ [z] := by
  rw [List.take_succ, h, List.filter_append]
  simp [hc]
theorem take_filter_out {l : List (Int × Int)} {idx : Int} {j : Nat} {c : Int × Int} {z : Int} (h : l[j]? = some c) (hc : inC idx c = false) : ((l.take (j + 1)).filter (inC idx)).map (fun _ => z) = ((l.take j).filter (inC idx)).map (fun _ => z) := by
  rw [List.take_succ, h, List.filter_append]
  simp [hc]
theorem mem_drop {tl r : Led} {c : Addr} {o : Obj} {p : Addr × Obj} (hm : p ∈ tl ++ (c, o) :: r) (hne : p.2 ≠ o) : p ∈ tl ++ r := by
  rcases List.mem_append.mp hm with h | h
  · exact List.mem_append_left _ h
  · rcases List.mem_cons.mp h with h | h
    · rw [h] at hne
      exact absurd rfl hne
    · exact List.mem_append_right _ h
theorem seq_ne_cell {o : Obj} {c : Value} {d : Option Addr} {xs : Array Value} {n : Nat} {v : Option Value} (h : o.data = .cell v) : ({ cls := c, dict := d, data := .seq xs n } : Obj) ≠ o := fun e => by
  rw [← e] at h
  cases h
theorem named_drop {tl r : Led} {c : Addr} {o : Obj} {v : Option Value} (hd : o.data = .cell v) {ys : List Value} {xs : List (Int × List (Int × Int))} (h : Paired (NamedIn (tl ++ (c, o) :: r)) ys xs) : Paired (NamedIn (tl ++ r)) ys xs := by
  refine paired_mono (fun v x hx => ?_) h
  obtain ⟨a, k, tn, l, nl, vs, e, h1, h2, h3⟩ := hx
  refine ⟨a, k, tn, l, nl, vs, e, mem_drop h1 (seq_ne_cell hd), mem_drop h2 (seq_ne_cell hd), paired_mono (fun _ _ y => ?_) h3⟩
  obtain ⟨a, n, t, u, e, hm⟩ := y
  exact ⟨a, n, t, u, e, mem_drop hm (seq_ne_cell hd)⟩
theorem named_ok {ps : List Pt} (hok : PartsOk ps) {x : Int × List (Int × Int)} (h : x ∈ namedI ps) : CsOk x.2 := by
  unfold namedI at h
  obtain ⟨n, hn, hx⟩ := List.mem_filterMap.mp h
  unfold nameAt at hx
  obtain ⟨body, tail, rfl, _, htail, hbody⟩ := hok
  cases hp : (body ++ tail)[n]? with
  | none => rw [hp] at hx; cases hx
  | some p =>
    rw [hp] at hx
    have hm := List.mem_of_getElem? hp
    cases p with
    | pos => cases hx
    | others => cases hx
    | named cs =>
      cases hx
      rcases List.mem_append.mp hm with hm | hm
      · rcases hbody with ⟨k, _, rfl⟩ | ⟨css, _, rfl, h3⟩
        · cases (List.eq_of_mem_replicate hm)
        · obtain ⟨c, hc, e⟩ := List.mem_map.mp hm
          cases e
          exact h3 _ hc
      · rcases htail with rfl | rfl
        · cases hm
        · rcases List.mem_singleton.mp hm with h
          cases h
def isPosB : Pt → Bool := fun p => match p with | .pos => true | _ => false
def PlcIn (led : Led) (v : Value) : Option (List Int) → Prop
  | none => v = .none
  | some fs => ∃ a n vs, v = .ref a ∧ (a, listOf vs.toArray n) ∈ led ∧ Paired IntV vs fs
set_option maxHeartbeats 8000000 in
theorem places_spec (w : World) (loose : List Str) (mean : ExcName → Option Value) (mg mb : Str → Option Value) {led : Led} {ba pl : Addr} {nb np : Nat} {refs : List Value} {ps : List Pt} {lo hi : Int} {t u : Tok}
    (hba : (ba, tupOf #[.int lo t, .int hi u] nb) ∈ led) (hm : (pl, listOf refs.toArray np) ∈ led) (hp : Paired (PtIn led) refs ps) (hok : PartsOk ps) (hlo : -100 ≤ lo ∧ lo ≤ 100) (hhi : -100 ≤ hi ∧ hi ≤ 100) :
    Calls w loose mean mg mb 4 193 [.ref pl, .ref ba] led fun h₀ L m s Q =>
      ∀ v tl' h' tk', Fr h₀ L h' m → News h₀ L h' (tl' ++ led) → PlcIn (tl' ++ led) v (placesO ps lo hi) → Q v { s with heap := h', toks := tk' } := by
  unfold Calls
  k_fill
  intro dp un gd cn cs a ccd cl outer A₀ base h₀ L m s Q E B F X N T hk hd hu hret
  refine wpAny_call ?_
  k_dflt (refine' code_defC ?k1 ?k2 ?k3 ?k4 ?k5 ?kA ?kF ?kK ?k6 ?k7 ?k8 ?k9 ?kB ?kD ?_ ?c2 ?c3 ?c4; (case kA => exact rfl); (case kF => exact rfl); (case kK => first | exact rfl | assumption); (case k1 => k_asm); (case k2 => k_asm); (case k3 => k_asm); (case k4 => k_asm); (case k5 => k_asm); (case k6 => k_is); (case k7 => k_is); (case k8 => ktr_room); (case k9 => exact BindsTo.of_eq rfl); (case kB => exact rfl); (case kD => decide +kernel); (case c2 => exact rfl); (case c3 => exact rfl); (case c4 => exact rfl); k_whole; intro g1 L1 h1 tk1 cellsY FG1 F1 N1 hY B1 X1 T1 l1; (try k_lt l1); k_cells hY; (try simp only [List.cons_append, List.nil_append] at N1); (try dsimp only); (try k_lift B1); (try k_fold))
  rename_i oi op d1 d2
  refine foldA ?_
  intro fA
  try (have fR : Around.units fA < cLine := by (simp only [fA, Around.deeper]; omega))
  try (have fR1 : Around.units (Around.in1 fA) < cLine := by (simp only [fA, Around.deeper, Around.in1]; omega))
  refine foldE ?_
  intro fE
  (try k_fold)
  have hbs : BrkSub := ⟨⟩
  replace F1 : Fr g1 L1 h1 (fun y => if y = Str.ofString "bounds" then some (.ref ba) else none) := F1
  replace d2 : op.data = .cell (some (.ref pl)) := d2
  replace d1 : oi.data = .cell none := d1
  have hll := paired_length hp
  have hps10 : ps.length ≤ 10 := by
    obtain ⟨body, tail, rfl, _, htail, hbody⟩ := hok
    rw [List.length_append]
    have h1 : tail.length ≤ 1 := by rcases htail with h | h <;> rw [h] <;> decide
    have h2 : body.length ≤ 5 := by
      rcases hbody with ⟨k, hk, e⟩ | ⟨css, hk, e, _⟩
      · rw [e, List.length_replicate]; omega
      · rw [e, List.length_map]; omega
    omega
  k_steps
  refine unbrk ?_
  (try k_fold)
  refine lc_use (cl := [(Str.ofString "parts", L1 + 1)]) rfl rfl rfl (by decide) (fun _ => rfl) ?_
  have hpl1 : (pl, listOf refs.toArray np) ∈ (L1 + 1 + 1, oi) :: (L1 + 1, op) :: led := .tail _ (.tail _ hm)
  k_steps
  refine unbrk ?_
  (try k_fold)
  refine comp_range (n := ((refs.length : Int) - 0).toNat) rfl (by assumption) (small_one (by omega) (by omega) (by omega) (by omega)) (rangeSize_nat _ _) (fun i ys nx => ∃ tlN : Led, nx = tlN ++ ((L1 + 1 + 1, oi) :: (L1 + 1, op) :: led) ∧ Paired (NamedIn nx) ys ((List.range i).filterMap (nameAt ps)) ∧ i ≤ 10 ∧ ∀ p ∈ tlN, L1 + 1 + 1 < p.1) ?hlen (by assumption) (by assumption) ?hj (by decide) rfl ?turn ?done
  case hlen =>
    intro i ys nx hJ
    obtain ⟨tlN, e1, e2, hiN, htN⟩ := hJ
    have := paired_length e2
    have h2 := List.length_filterMap_le (nameAt ps) (List.range i)
    rw [List.length_range] at h2
    omega
  case hj => exact ⟨[], rfl, .nil, by omega, List.forall_mem_nil _⟩
  case turn =>
    intro C D i ti h4 tk4 nx oC cm ys k ow Bk hi4 F4 N4 off4 hns4 hJ
    (try k_fold)
    obtain ⟨tlN, e1, e2, hiN, htN⟩ := hJ
    subst e1
    have hi8 : i < ps.length := by omega
    obtain ⟨p, hpi⟩ : ∃ p, ps[i]? = some p := ⟨_, List.getElem?_eq_getElem hi8⟩
    obtain ⟨vr, hvr, a1, n1, vc1, x1, t1, rfl, hm1, hc1⟩ := paired_get' hp hpi
    rw [Int.zero_add]
    refine bind_name Bk rfl rfl F4 N4 off4 hns4 (fun h5 oC5 F5 N5 off5 hns5 => ?_)
    refine ⟨oC5, _, hns5, ?_⟩
    have hinL : ∀ p ∈ led, p ∈ (tlN ++ ((L1 + 1 + 1, oi) :: (L1 + 1, op) :: led)) ++ blk C oC5 D ys k ow := fun p hp => List.mem_append_left _ (List.mem_append_right _ (.tail _ (.tail _ hp)))
    have hcell : (L1 + 1, op) ∈ (tlN ++ ((L1 + 1 + 1, oi) :: (L1 + 1, op) :: led)) ++ blk C oC5 D ys k ow := List.mem_append_left _ (List.mem_append_right _ (.tail _ (.head _)))
    have e0 : ((i : Int)).toNat = i := by omega
    refine wpAny_tests_one ?_
    k_steps
    refine unbrk ?_
    (try k_fold)
    refine sub_at N5 (hinL _ hm) (by omega) (by omega) (by rw [e0]; exact hvr) ?_
    (try k_fold)
    k_steps
    refine unbrk ?_
    (try k_fold)
    refine sub_tup (its := [vc1, _]) N5 (hinL _ hm1) (by decide) (by decide) rfl ?_
    (try k_fold)
    k_steps
    rename_i q6 h6 F6 N6 l6
    refine cho_notIn N6 (.head _) (hc1.mono fun p hp => .tail _ (hinL p hp)) (by walk_at "my room") ?_
    replace N6 : News g1 L1 h6 (((q6, tupOf #[.none, .str (Str.ofString "others") (tk4 + 1 + 1)] 0) :: (tlN ++ ((L1 + 1 + 1, oi) :: (L1 + 1, op) :: led))) ++ blk C oC5 D ys k ow) := N6
    have hcell6 : (L1 + 1, op) ∈ ((q6, tupOf #[.none, .str (Str.ofString "others") (tk4 + 1 + 1)] 0) :: (tlN ++ ((L1 + 1 + 1, oi) :: (L1 + 1, op) :: led))) ++ blk C oC5 D ys k ow := .tail _ hcell
    have hneg : nameAt ps i = none → (List.range (i + 1)).filterMap (nameAt ps) = (List.range i).filterMap (nameAt ps) := fun h => by
      rw [filterMap_succ, h]
      exact List.append_nil _
    cases p with
    | named cs =>
      have hnm : nameAt ps i = some ((i : Int), cs) := by
        unfold nameAt
        rw [hpi]
      rw [show (Pt.named cs).isNamed = true from rfl]
      (try k_fold)
      k_steps
      refine unbrk ?_
      (try k_fold)
      refine sub_at N6 (.tail _ (hinL _ hm)) (by omega) (by omega) (by rw [e0]; exact hvr) ?_
      (try k_fold)
      k_steps
      refine unbrk ?_
      (try k_fold)
      refine sub_tup (its := [vc1, _]) N6 (.tail _ (hinL _ hm1)) (by decide) (by decide) rfl ?_
      (try k_fold)
      k_steps
      rename_i D7 h7 F7 N7 l7
      obtain ⟨lc, nc, vcs, rfl, hmc, hpc⟩ := hc1
      have hbase : ∀ p ∈ led, p ∈ (D7, tupOf #[.int (i : Int) ti, .ref lc] 0) :: (tlN ++ ((L1 + 1 + 1, oi) :: (L1 + 1, op) :: led)) := fun p hp => .tail _ (List.mem_append_right _ (.tail _ (.tail _ hp)))
      refine ⟨h7, _, (D7, tupOf #[.int (i : Int) ti, .ref lc] 0) :: (tlN ++ ((L1 + 1 + 1, oi) :: (L1 + 1, op) :: led)), rfl, F7, news_sub N7 ?_, ?_, (D7, tupOf #[.int (i : Int) ti, .ref lc] 0) :: tlN, rfl, ?_, by omega, List.forall_mem_cons.mpr ⟨l7 (L1 + 1 + 1, oi) (List.mem_append_left _ (.tail _ (List.mem_append_right _ (.head _)))), htN⟩⟩
      · intro p hp
        rcases List.mem_cons.mp hp with rfl | hp
        · exact .head _
        · exact .tail _ (.tail _ hp)
      · intro q hq p hp
        rcases List.mem_cons.mp hq with rfl | hq
        · exact Nat.ne_of_gt (l7 p (List.mem_append_right _ hp))
        · exact off5 q hq p hp
      · rw [filterMap_succ, hnm]
        exact paired_snoc (paired_mono (fun _ _ x => x.mono fun p hp => .tail _ hp) e2) ⟨D7, 0, ti, lc, nc, vcs, rfl, .head _, hbase _ hmc, paired_mono (fun _ _ x => x.mono hbase) hpc⟩
    | pos =>
      have hnm : nameAt ps i = none := by
        unfold nameAt
        rw [hpi]
      rw [show Pt.pos.isNamed = false from rfl]
      (try k_fold)
      k_steps
      exact ⟨h6, _, _, rfl, F6, news_d1 N6, off5, tlN, rfl, by rw [hneg hnm]; exact e2, by omega, htN⟩
    | others =>
      have hnm : nameAt ps i = none := by
        unfold nameAt
        rw [hpi]
      rw [show Pt.others.isNamed = false from rfl]
      (try k_fold)
      k_steps
      exact ⟨h6, _, _, rfl, F6, news_d1 N6, off5, tlN, rfl, by rw [hneg hnm]; exact e2, by omega, htN⟩
  case done =>
    intro C D h4 tk4 nx oC cm ys k hCD hlt F4 N4 off4 hns4 hJ
    (try k_fold)
    obtain ⟨tlN, e1, e2, hiN, htN⟩ := hJ
    subst e1
    refine post_use rfl rfl hCD F4 N4 off4 hns4 (fun h5 tk5 F5 N5 hne5 => ?_)
    rw [show ((refs.length : Int) - 0).toNat = ps.length by omega] at e2
    replace e2 : Paired (NamedIn (tlN ++ ((L1 + 1 + 1, oi) :: (L1 + 1, op) :: led))) ys (namedI ps) := e2
    replace F5 : Fr g1 L1 h5 _ := F5
    replace N5 : News g1 L1 h5 ((D, listOf ys.toArray k) :: (tlN ++ ((L1 + 1 + 1, oi) :: (L1 + 1, op) :: led))) := N5
    k_steps
    refine unbrk ?_
    (try k_fold)
    refine wpAny_For (hs := fun _ => rfl) ?_
    k_steps
    refine unbrk ?_
    (try k_fold)
    refine for_list (l := D) (vs := ys) (ln := k) (fun i m₁ nx => nx = (D, listOf ys.toArray k) :: (tlN ++ ((L1 + 1 + 1, oi) :: (L1 + 1, op) :: led)) ∧ ((namedI ps).take i).any (badN lo hi) = false ∧
      m₁ (Str.ofString "low") = some (.int lo t) ∧ m₁ (Str.ofString "high") = some (.int hi u) ∧ m₁ (Str.ofString "named") = some (.ref D)) rfl F5 N5 ?hl3 ?hj3 ?turn3 ?done3 ?hE3
    case hE3 => with_unfolding_all passes_own
    case hl3 =>
      intro i m₁ nx hJ
      rw [hJ.1]
      exact .head _
    case hj3 => exact ⟨rfl, rfl, rfl, rfl, rfl⟩
    case turn3 =>
      intro i v m₁ nx h7 tk7 own hv hoff hJ F7 N7
      (try k_fold)
      obtain ⟨g1', g2, g3, g4, g5⟩ := hJ
      subst g1'
      obtain ⟨x, hx, a1, k1, tn1, l1', nl1, vs1, rfl, hm1, hml, hpc⟩ := paired_get e2 hv
      refine assign_pair rfl rfl rfl rfl F7 N7 (List.mem_append_left _ (.tail _ hm1)) (fun h8 tk8 F8 N8 => ?_)
      (try k_fold)
      replace F8 : Fr g1 L1 h8 _ := fr_has3 (a := Str.ofString "low") (b := Str.ofString "high") (c := Str.ofString "named") F8 g3 g4 g5
      replace N8 : News g1 L1 h8 (((D, listOf ys.toArray k) :: (tlN ++ ((L1 + 1 + 1, oi) :: (L1 + 1, op) :: led))) ++ own) := N8
      k_steps
      refine unbrk ?_
      (try k_fold)
      refine wpAny_For (hs := fun _ => rfl) ?_
      k_steps
      refine unbrk ?_
      (try k_fold)
      refine for_list (l := l1') (vs := vs1) (ln := nl1) (fun j m₂ nx => nx = ((D, listOf ys.toArray k) :: (tlN ++ ((L1 + 1 + 1, oi) :: (L1 + 1, op) :: led))) ++ own ∧ (x.2.take j).any (badC lo hi) = false ∧
        m₂ (Str.ofString "low") = some (.int lo t) ∧ m₂ (Str.ofString "high") = some (.int hi u) ∧ m₂ (Str.ofString "named") = some (.ref D)) rfl F8 N8 ?hl4 ?hj4 ?turn4 ?done4 ?hE4
      case hE4 => with_unfolding_all passes_own
      case hl4 =>
        intro j m₂ nx hJ
        rw [hJ.1]
        exact List.mem_append_left _ (.tail _ hml)
      case hj4 => exact ⟨rfl, rfl, rfl, rfl, rfl⟩
      case turn4 =>
        intro j v m₂ nx h9 tk9 own2 hv2 hoff2 hJ F9 N9
        (try k_fold)
        obtain ⟨r1, r2, r3, r4, r5⟩ := hJ
        subst r1
        obtain ⟨c, hc, a2, n2, t2, u2, rfl, hm2⟩ := paired_get hpc hv2
        refine assign_pair rfl rfl rfl rfl F9 N9 (List.mem_append_left _ (List.mem_append_left _ (.tail _ hm2))) (fun h10 tk10 F10 N10 => ?_)
        (try k_fold)
        replace F10 : Fr g1 L1 h10 _ := fr_has3 (a := Str.ofString "low") (b := Str.ofString "high") (c := Str.ofString "named") F10 r3 r4 r5
        replace N10 : News g1 L1 h10 _ := N10
        k_steps
        · have q1 : c.1 < lo := by assumption
          have hb : badC lo hi c = true := decide_eq_true ⟨by assumption, .inl q1⟩
          dsimp only
          k_steps
          dsimp (config := { zetaDelta := true }) only [TurnOut]
          k_steps
          (with_reducible rename Fr _ _ _ _ => kF9)
          (with_reducible rename News _ _ _ _ => kN9)
          refine hret .none [] _ _ kF9 (news_sub kN9 fun p hp => List.mem_append_left _ (List.mem_append_left _ (.tail _ (List.mem_append_right _ (.tail _ (.tail _ hp)))))) ?_
          unfold placesO
          rw [if_pos (any_at hx (any_at hc hb))]
          rfl
        · have q1 : hi < c.2 := by assumption
          have hb : badC lo hi c = true := decide_eq_true ⟨by assumption, .inr q1⟩
          dsimp only
          k_steps
          dsimp (config := { zetaDelta := true }) only [TurnOut]
          k_steps
          (with_reducible rename Fr _ _ _ _ => kF9)
          (with_reducible rename News _ _ _ _ => kN9)
          refine hret .none [] _ _ kF9 (news_sub kN9 fun p hp => List.mem_append_left _ (List.mem_append_left _ (.tail _ (List.mem_append_right _ (.tail _ (.tail _ hp)))))) ?_
          unfold placesO
          rw [if_pos (any_at hx (any_at hc hb))]
          rfl
        · have q1 : ¬ c.1 < lo := by assumption
          have q2 : ¬ hi < c.2 := by assumption
          exact ⟨h10, _, _, _, rfl, F10, N10, hoff2, rfl, any_take_succ hc r2 (decide_eq_false fun h => h.2.elim q1 q2), rfl, rfl, rfl⟩
        · have q1 : ¬ c.1 ≤ c.2 := by assumption
          exact ⟨h10, _, _, _, rfl, F10, N10, hoff2, rfl, any_take_succ hc r2 (decide_eq_false fun h => q1 h.1), rfl, rfl, rfl⟩
      case done4 =>
        intro m₂ nx h9 tk9 hJ F9 N9
        (try k_fold)
        obtain ⟨r1, r2, r3, r4, r5⟩ := hJ
        subst r1
        k_steps
        rw [List.take_of_length_le (Nat.le_of_eq (paired_length hpc).symm)] at r2
        exact ⟨h9, _, _, _, rfl, F9, N9, hoff, rfl, any_take_succ hx g2 r2, r3, r4, r5⟩
    case done3 =>
      intro m₁ nx h7 tk7 hJ F7 N7
      (try k_fold)
      obtain ⟨g1', g2, g3, g4, g5⟩ := hJ
      subst g1'
      replace F7 : Fr g1 L1 h7 _ := fr_has3 (a := Str.ofString "low") (b := Str.ofString "high") (c := Str.ofString "named") F7 g3 g4 g5
      replace N7 : News g1 L1 h7 ((D, listOf ys.toArray k) :: (tlN ++ ((L1 + 1 + 1, oi) :: (L1 + 1, op) :: led))) := N7
      have hps1 : ∀ p ∈ led, p ∈ (D, listOf ys.toArray k) :: (tlN ++ ((L1 + 1 + 1, oi) :: (L1 + 1, op) :: led)) := fun p hp => .tail _ (List.mem_append_right _ (.tail _ (.tail _ hp)))
      have hcp : (L1 + 1, op) ∈ (D, listOf ys.toArray k) :: (tlN ++ ((L1 + 1 + 1, oi) :: (L1 + 1, op) :: led)) := .tail _ (List.mem_append_right _ (.tail _ (.head _)))
      k_steps
      refine unbrk ?_
      (try k_fold)
      refine lc_none (cl := []) rfl rfl (by decide) (fun _ => rfl) ?_
      k_steps
      refine unbrk ?_
      (try k_fold)
      refine comp_list (vs := refs) (ln := np) rfl (fun j ys2 nx => nx = (D, listOf ys.toArray k) :: (tlN ++ ((L1 + 1 + 1, oi) :: (L1 + 1, op) :: led)) ∧ ys2.length = ((ps.take j).filter isPosB).length) ?hl5 ?hlen5 F7 N7 ⟨rfl, rfl⟩ (by decide) rfl ?turn5 ?done5
      case hl5 =>
        intro j ys2 nx hJ
        rw [hJ.1]
        exact hps1 _ hm
      case hlen5 =>
        intro j ys2 nx hJ
        rw [hJ.2]
        have h1 := List.length_filter_le isPosB (ps.take j)
        have h2 : (ps.take j).length ≤ ps.length := by rw [List.length_take]; exact Nat.min_le_right _ _
        omega
      case turn5 =>
        intro C2 D2 j v h13 tk13 nx oC2 cm2 ys2 k2 ow2 Bk2 hv F13 N13 off13 hns13 hJ2
        (try k_fold)
        obtain ⟨e6, hlen2⟩ := hJ2
        subst e6
        obtain ⟨pj, hpj, a1, n1, vc1, x1, t1, rfl, hm1, hc1⟩ := paired_get hp hv
        have hta := N13 _ (blk_nx (hps1 _ hm1))
        refine bind_pair rfl Bk2 rfl rfl rfl F13 N13 off13 hns13 hta.1 rfl rfl (fun h14 oC14 tk14 F14 N14 off14 hns14 => ?_)
        refine ⟨oC14, _, hns14, ?_⟩
        refine wpAny_tests_one ?_
        cases pj with
        | pos =>
          obtain rfl : vc1 = .none := hc1
          k_steps
          refine ⟨h14, _, _, rfl, F14, N14, off14, rfl, ?_⟩
          rw [take_succ_filter _ _ _ _ hpj, if_pos (show isPosB .pos = true from rfl)]
          simp [hlen2]
        | named cs =>
          obtain ⟨lc, nc, vcs, rfl, hmc, hpc⟩ := hc1
          k_steps
          refine ⟨h14, _, _, rfl, F14, N14, off14, rfl, ?_⟩
          rw [take_succ_filter _ _ _ _ hpj, if_neg (show ¬ isPosB (.named cs) = true from Bool.false_ne_true)]
          simp [hlen2]
        | others =>
          obtain ⟨to, rfl⟩ := hc1
          k_steps
          refine ⟨h14, _, _, rfl, F14, N14, off14, rfl, ?_⟩
          rw [take_succ_filter _ _ _ _ hpj, if_neg (show ¬ isPosB .others = true from Bool.false_ne_true)]
          simp [hlen2]
      case done5 =>
        intro C2 D2 h13 tk13 nx oC2 cm2 ys2 k2 hCD2 hlt2 F13 N13 off13 hns13 hJ2
        (try k_fold)
        obtain ⟨e6, hlen2⟩ := hJ2
        subst e6
        refine post_none hCD2 F13 N13 off13 hns13 (fun h14 F14 N14 hne14 => ?_)
        rw [List.take_of_length_le (Nat.le_of_eq hll.symm)] at hlen2
        have hy2 : ys2.length ≤ 10 := by
          rw [hlen2]
          exact Nat.le_trans (List.length_filter_le _ _) hps10
        have hmD : (D2, listOf ys2.toArray k2) ∈ (D2, listOf ys2.toArray k2) :: (D, listOf ys.toArray k) :: (tlN ++ ((L1 + 1 + 1, oi) :: (L1 + 1, op) :: led)) := .head _
        have hcp2 : countPos ps = (ys2.length : Int) := by
          unfold countPos
          rw [hlen2]
          rfl
        have hbad : (namedI ps).any (badN lo hi) = false := by
          rw [List.take_of_length_le (Nat.le_of_eq (paired_length e2).symm)] at g2
          exact g2
        k_steps
        · have q1 : (ys2.length : Int) > hi - lo + 1 := by assumption
          (with_reducible rename Fr _ _ _ _ => kF9)
          (with_reducible rename News _ _ _ _ => kN9)
          refine hret .none [] _ _ kF9 (news_sub kN9 fun p hp => .tail _ (hps1 p hp)) ?_
          unfold placesO
          rw [if_neg (by rw [hbad]; exact Bool.false_ne_true), if_pos (by rw [hcp2]; exact q1)]
          rfl
        · refine unbrk ?_
          (try k_fold)
          refine wpAny_For (hs := fun _ => rfl) ?_
          k_steps
          refine unbrk ?_
          (try k_fold)
          rename_i fl _ _ l15 _ _ _ _ _ _ _ _ _ hr15 F15 N15 _
          have hfl : ∀ p ∈ (D2, listOf ys2.toArray k2) :: (D, listOf ys.toArray k) :: (tlN ++ ((L1 + 1 + 1, oi) :: (L1 + 1, op) :: led)), p.1 < fl := by
            have hl5 : D2 < fl ∧ D < fl ∧ AllLt fl (tlN ++ (L1 + 1 + 1, oi) :: (L1 + 1, op) :: led) := by assumption
            exact List.forall_mem_cons.mpr ⟨hl5.1, List.forall_mem_cons.mpr ⟨hl5.2.1, lt_all hl5.2.2⟩⟩
          replace F15 : Fr g1 L1 _ (fun y => if y = Str.ofString "found" then some (.ref fl) else if y = Str.ofString "count" then some (.int (ys2.length : Int) (tk13 + 1)) else if y = Str.ofString "low" then some (Value.int lo t) else if y = Str.ofString "high" then some (Value.int hi u) else if y = Str.ofString "named" then some (Value.ref D) else m₁ y) := F15
          have hneC : ∀ p ∈ (fl, listOf ([] : List Value).toArray 0) :: (D, listOf ys.toArray k) :: (tlN ++ (L1 + 1, op) :: led), p.1 ≠ L1 + 1 + 1 := List.forall_mem_cons.mpr ⟨Nat.ne_of_gt (hfl (L1 + 1 + 1, oi) (.tail _ (.tail _ (List.mem_append_right _ (.head _))))), List.forall_mem_cons.mpr ⟨Nat.ne_of_gt (hlt _ (.head _)), List.forall_mem_append.mpr ⟨fun p hp => Nat.ne_of_gt (htN p hp), List.forall_mem_cons.mpr ⟨Nat.ne_of_lt (Nat.lt_succ_self _), fun p hp => Nat.ne_of_lt (Nat.lt_succ_of_lt (Nat.lt_succ_of_lt (l1 p hp)))⟩⟩⟩⟩
          have e3 := named_drop (d1 : oi.data = .cell none) e2
          refine for_range (n := (hi + 1 - lo).toNat) (fun i m₂ nx => ∃ (fs : List Int) (fvs : List Value) (nf : Nat) (oi' : Obj) (v0 : Option Value), optFold (placeStep ps lo (countPos ps)) [] ((rng lo hi).take i) = some fs ∧ Paired IntV fvs fs ∧ fs.length = i ∧ i ≤ 1000 ∧
            nx = (L1 + 1 + 1, oi') :: (fl, listOf fvs.toArray nf) :: ((D, listOf ys.toArray k) :: (tlN ++ ((L1 + 1, op) :: led))) ∧ oi'.data = .cell v0 ∧
            m₂ (Str.ofString "found") = some (.ref fl) ∧ m₂ (Str.ofString "count") = some (.int (ys2.length : Int) (tk13 + 1)) ∧ m₂ (Str.ofString "low") = some (.int lo t) ∧ m₂ (Str.ofString "high") = some (.int hi u) ∧ m₂ (Str.ofString "named") = some (.ref D)) rfl (by assumption) (small_one (by omega) (by omega) (by omega) (by omega)) (rangeSize_nat _ _) F15 (news_sub (a := (L1 + 1 + 1, oi) :: (fl, listOf ([] : List Value).toArray 0) :: ((D, listOf ys.toArray k) :: (tlN ++ ((L1 + 1, op) :: led)))) N15 ?hs6) ?hj6 ?turn6 ?done6 ?hE6
          case hE6 => with_unfolding_all passes_own
          case hs6 => walk_at "my sub"
          case hj6 => exact ⟨[], [], 0, oi, none, rfl, .nil, rfl, by omega, rfl, d1, rfl, rfl, rfl, rfl, rfl⟩
          case done6 =>
            intro m₂ nx h17 tk17 hJ F17 N17
            (try k_fold)
            obtain ⟨fs, fvs, nf, oi', v0, f1, f2, f3, f4, f5, f6, f8, f9, f10, f11, f12⟩ := hJ
            subst f5
            replace F17 : Fr g1 L1 h17 _ := fr_has F17 f8
            replace N17 : News g1 L1 h17 _ := N17
            k_steps
            (with_reducible rename Fr _ _ _ _ => kF9)
            (with_reducible rename News _ _ _ _ => kN9)
            refine hret (.ref fl) [(fl, listOf fvs.toArray nf)] _ _ kF9 (news_sub kN9 fun p hp => ?nsq) ?_
            case nsq =>
              rcases List.mem_cons.mp hp with rfl | hp
              · exact .tail _ (.head _)
              · exact .tail _ (.tail _ (.tail _ (List.mem_append_right _ (.tail _ hp))))
            rw [List.take_of_length_le (Nat.le_of_eq (by unfold rng; simp))] at f1
            unfold placesO
            rw [if_neg (by rw [hbad]; exact Bool.false_ne_true), if_neg (by rw [hcp2]; assumption), f1]
            exact ⟨fl, nf, fvs, rfl, .head _, f2⟩
          case turn6 =>
            intro i ti m₂ nx h17 tk17 own hi17 hoff hJ F17 N17
            (try k_fold)
            obtain ⟨fs, fvs, nf, oi', v0, f1, f2, f3, f4, f5, f6, f8, f9, f10, f11, f12⟩ := hJ
            subst f5
            have hne17 : ∀ p ∈ ((fl, listOf fvs.toArray nf) :: ((D, listOf ys.toArray k) :: (tlN ++ (L1 + 1, op) :: led))) ++ own, p.1 ≠ L1 + 1 + 1 := by
              have z := List.forall_mem_cons.mp hneC
              exact List.forall_mem_append.mpr ⟨List.forall_mem_cons.mpr ⟨z.1, z.2⟩, fun p hp => Ne.symm (hoff _ (.head _) p hp)⟩
            refine bind_cell rfl rfl rfl F17 N17 f6 hne17 (fun h18 oi18 hd18 F18 N18 => ?_)
            have hnefl : ∀ p ∈ ((D, listOf ys.toArray k) :: (tlN ++ (L1 + 1, op) :: led)) ++ own, p.1 ≠ fl := List.forall_mem_append.mpr ⟨List.forall_mem_cons.mpr ⟨Nat.ne_of_lt (hfl _ (.tail _ (.head _))), List.forall_mem_append.mpr ⟨fun p hp => Nat.ne_of_lt (hfl p (.tail _ (.tail _ (List.mem_append_left _ hp)))), fun p hp => Nat.ne_of_lt (hfl p (.tail _ (.tail _ (List.mem_append_right _ (.tail _ hp)))))⟩⟩, fun p hp => Ne.symm (hoff _ (.tail _ (.head _)) p hp)⟩
            obtain ⟨base, hbase⟩ : ∃ b, b = ((D, listOf ys.toArray k) :: (tlN ++ (L1 + 1, op) :: led)) ++ own := ⟨_, rfl⟩
            have hbD : (D, listOf ys.toArray k) ∈ base := hbase ▸ .head _
            have hbP : (L1 + 1, op) ∈ base := hbase ▸ .tail _ (List.mem_append_left _ (List.mem_append_right _ (.head _)))
            have hbL : ∀ p ∈ led, p ∈ base := fun p hp => hbase ▸ .tail _ (List.mem_append_left _ (List.mem_append_right _ (.tail _ hp)))
            have hbN : ∀ p ∈ tlN ++ ((L1 + 1, op) :: led), p ∈ base := fun p hp => hbase ▸ .tail _ (List.mem_append_left _ hp)
            replace N18 : News g1 L1 h18 ((L1 + 1 + 1, oi18) :: (fl, listOf fvs.toArray nf) :: base) := by rw [hbase]; exact N18
            rw [← hbase] at hnefl
            replace F18 : Fr g1 L1 h18 _ := fr_has3 (a := Str.ofString "found") (b := Str.ofString "count") (c := Str.ofString "low") F18 f8 f9 f10
            replace F18 : Fr g1 L1 h18 (fun y => if y = Str.ofString "named" then some (.ref D) else if y = Str.ofString "found" then some (.ref fl) else if y = Str.ofString "count" then some (.int (ys2.length : Int) (tk13 + 1)) else if y = Str.ofString "low" then some (Value.int lo t) else m₂ y) := fr_has F18 f12
            k_steps
            refine unbrk ?_
            (try k_fold)
            refine lc_use2 (cl := [(Str.ofString "index", L1 + 1 + 1)]) rfl rfl rfl (by decide) (fun _ => rfl) ?_
            k_steps
            refine unbrk ?_
            (try k_fold)
            refine comp2_list (l := D) (vs := ys) (ln := k) rfl (fun j ts nx => nx = (L1 + 1 + 1, oi18) :: (fl, listOf fvs.toArray nf) :: base ∧ Paired IntV ts (tkr ((namedI ps).take j) (lo + (i : Int))) ∧ ts.length ≤ 2 * j ∧ j ≤ 10) ?hl7 F18 N18 ⟨rfl, .nil, by simp, by omega⟩ (by decide) rfl ?turn7 ?done7
            case hl7 =>
              intro j ts nx hJ
              rw [hJ.1]
              exact .tail _ (.tail _ hbD)
            case turn7 =>
              intro C3 D3 j v h19 tk19 nx oC3 cm3 ts k3 ow3 Bk3 hv3 F19 N19 off19 hns19 hJ3
              (try k_fold)
              obtain ⟨e7, e8, e9, e10⟩ := hJ3
              subst e7
              obtain ⟨x, hx, a1, k1, tn1, l1', nl1, vs1, rfl, hm1, hml, hpc⟩ := paired_get e3 hv3
              have hxok := named_ok hok (List.mem_of_getElem? hx)
              have hx2 := hxok.2.1
              have hj10 : j < 10 := by
                have h1 : j < (namedI ps).length := by
                  rcases Nat.lt_or_ge j (namedI ps).length with h | h
                  · exact h
                  · rw [List.getElem?_eq_none h] at hx; cases hx
                have h2 := List.length_filterMap_le (nameAt ps) (List.range ps.length)
                rw [List.length_range] at h2
                exact Nat.lt_of_lt_of_le h1 (Nat.le_trans h2 hps10)
              have hta := N19 _ (blk_nx (.tail _ (.tail _ (hbN _ hm1))))
              refine bind_pair rfl Bk3 rfl rfl rfl F19 N19 off19 hns19 hta.1 rfl rfl (fun h20 oC20 tk20 F20 N20 off20 hns20 => ?_)
              refine emit2_wp (l1 := l1') (vs1 := vs1) (ln1 := nl1) rfl Bk3 (fun jj cm ts nx => cm (Str.ofString "nth") = some (.int x.1 tn1) ∧ nx = (L1 + 1 + 1, oi18) :: (fl, listOf fvs.toArray nf) :: base ∧ Paired IntV ts (tkr ((namedI ps).take j) (lo + (i : Int)) ++ ((x.2.take jj).filter (inC (lo + (i : Int)))).map fun _ => x.1) ∧ ts.length ≤ 2 * j + jj ∧ jj ≤ 10) ?hl8 ?hlen8 ?hev8 (fun _ => rfl) F20 N20 off20 hns20 ⟨rfl, rfl, by simpa using e8, by omega, by omega⟩ ?turn8 ?fin8
              case hl8 =>
                intro jj cm ts nx hJ
                rw [hJ.2.1]
                exact .tail _ (.tail _ (hbN _ hml))
              case hlen8 =>
                intro jj cm ts nx hJ
                have z1 := hJ.2.2.2.1
                have z2 := hJ.2.2.2.2
                omega
              case hev8 => exact fun Q h => cname_L N20 blk_C hns20 rfl (h _) rfl rfl (by decide)
              case turn8 =>
                intro jj v h21 tk21 nx oC4 cm4 ts k4 ow4 Bk4 hv4 F21 N21 off21 hns21 hJ4
                (try k_fold)
                obtain ⟨r0, r1, r2, r3, r4⟩ := hJ4
                subst r1
                obtain ⟨c, hc, a2, n2, t2, u2, rfl, hm2⟩ := paired_get hpc hv4
                have hjj : jj < x.2.length := by
                  rcases Nat.lt_or_ge jj x.2.length with h | h
                  · exact h
                  · rw [List.getElem?_eq_none h] at hc; cases hc
                have hta2 := N21 _ (blk_nx (.tail _ (.tail _ (hbN _ hm2))))
                refine bind_pair rfl Bk4 rfl rfl rfl F21 N21 off21 hns21 hta2.1 rfl rfl (fun h22 oC22 tk22 F22 N22 off22 hns22 => ?_)
                refine ⟨oC22, _, hns22, ?_⟩
                refine wpAny_tests_one ?_
                have hcell22 : (L1 + 1 + 1, oi18) ∈ ((L1 + 1 + 1, oi18) :: (fl, listOf fvs.toArray nf) :: base) ++ blk C3 oC22 D3 ts k4 ow4 := .head _
                k_steps
                · have q1 : c.1 ≤ lo + (i : Int) := by assumption
                  have q2 : lo + (i : Int) ≤ c.2 := by assumption
                  exact ⟨h22, _, _, rfl, F22, N22, off22, r0, rfl, by
                    rw [take_filter_in hc (decide_eq_true ⟨q1, q2⟩), ← List.append_assoc]
                    exact paired_snoc r2 ⟨_, rfl⟩, by simp; omega, by omega⟩
                · have q1 : ¬ lo + (i : Int) ≤ c.2 := by assumption
                  exact ⟨h22, _, _, rfl, F22, N22, off22, r0, rfl, by
                    rw [take_filter_out hc (decide_eq_false fun h => q1 h.2)]
                    exact r2, by omega, by omega⟩
                · have q1 : ¬ c.1 ≤ lo + (i : Int) := by assumption
                  exact ⟨h22, _, _, rfl, F22, N22, off22, r0, rfl, by
                    rw [take_filter_out hc (decide_eq_false fun h => q1 h.1)]
                    exact r2, by omega, by omega⟩
              case fin8 =>
                intro h21 tk21 nx oC4 cm4 ts k4 F21 N21 off21 hns21 hJ4
                (try k_fold)
                obtain ⟨r0, r1, r2, r3, r4⟩ := hJ4
                subst r1
                have hv1l := paired_length hpc
                exact ⟨h21, _, _, oC4, cm4, ts, k4, rfl, F21, N21, off21, hns21, rfl, by
                  rw [tkr_succ hx]
                  rw [List.take_of_length_le (Nat.le_of_eq hv1l.symm)] at r2
                  exact r2, by omega, by omega⟩
            case done7 =>
              intro C3 D3 h19 tk19 nx oC3 cm3 ts k3 hCD3 hlt3 F19 N19 off19 hns19 hJ3
              (try k_fold)
              obtain ⟨e7, e8, e9, e10⟩ := hJ3
              subst e7
              refine post_use rfl rfl hCD3 F19 N19 off19 hns19 (fun h20 tk20 F20 N20 hne20 => ?_)
              rw [List.take_of_length_le (Nat.le_of_eq (paired_length e3).symm)] at e8
              clear e2 hcp g2 off13 off4 hns4 hns13 hmD hr15 N15 F15 F17 N17 hne5 hne14 hpl1 hps1 hlt2 F18 N18
              have hts : ts.length ≤ 40 := by
                have h0 := paired_length e3
                omega
              have hbi : BrkIf := ⟨⟩
              have hplc : placesO ps lo hi = optFold (placeStep ps lo (countPos ps)) [] (rng lo hi) := by
                unfold placesO
                rw [if_neg (by rw [hbad]; exact Bool.false_ne_true), if_neg (by rw [hcp2]; assumption)]
              have hsucc := optFold_succ (f := placeStep ps lo (countPos ps)) (b := []) (rng_get (l := lo) (h := hi) (k := i) hi17)
              rw [f1, Option.bind_some] at hsucc
              have hD3fl : fl ≠ D3 := hne20 _ (.tail _ (.head _))
              have hflcell : (fl : Addr) ≠ L1 + 1 + 1 := hne17 _ (.head _)
              k_steps
              refine unbrk ?_
              (try k_fold)
              refine cut_next (R := fun s' => ∃ D4 h4 tk4 tv nt, s' = { s with heap := h4, toks := tk4 } ∧ Fr g1 L1 h4 (fun z => if z = Str.ofString "takers" then some (Value.ref D4) else if z = Str.ofString "named" then some (.ref D) else if z = Str.ofString "found" then some (.ref fl) else if z = Str.ofString "count" then some (.int (ys2.length : Int) (tk13 + 1)) else if z = Str.ofString "low" then some (Value.int lo t) else m₂ z) ∧
                News g1 L1 h4 ((D4, listOf tv.toArray nt) :: (L1 + 1 + 1, oi18) :: (fl, listOf fvs.toArray nf) :: base) ∧ Paired IntV tv (takers2 ps lo (countPos ps) (lo + (i : Int))) ∧ D4 ≠ fl ∧ tv.length ≤ 41) ?first ?tail
              case first =>
                refine wpAny_If ?_
                k_steps
                · refine unbrk ?_
                  (try k_fold)
                  rename_i l21 h21 F21 N21 lt21
                  refine add_led F21 N21 (.tail _ (.head _)) (.head _) (by simp; omega) (fun D22 h22 F22 N22 l22 => ?_)
                  (try k_fold)
                  k_steps
                  (with_reducible rename Fr _ _ _ _ => kF9)
                  (with_reducible rename News _ _ _ _ => kN9)
                  have kN8 := news_sub (a := (D22, _) :: (L1 + 1 + 1, oi18) :: (fl, listOf fvs.toArray nf) :: base) kN9 (fun p hp => by
                    rcases List.mem_cons.mp hp with rfl | hp
                    · exact .head _
                    · exact .tail _ (.tail _ (.tail _ hp)))
                  refine meet ⟨rfl, D22, _, _, _, _, rfl, fr_over kF9, kN8, ?tk, Nat.ne_of_gt (l22 _ (.tail _ (.tail _ (.tail _ (.head _))))), ?ln⟩
                  case tk =>
                    unfold takers2
                    rw [if_pos (by rw [hcp2]; assumption)]
                    exact paired_snoc e8 ⟨_, rfl⟩
                  case ln =>
                    simp
                    omega
                · refine meet ⟨rfl, D3, h20, _, ts, k3, rfl, by assumption, by assumption, ?_, Ne.symm hD3fl, by omega⟩
                  unfold takers2
                  rw [if_neg (by rw [hcp2]; assumption)]
                  exact e8
              case tail =>
                intro s2 hR
                obtain ⟨D4, h4, tk4, tv, nt, e4, F4, N4, htk, hD4, htv⟩ := hR
                subst e4
                have hmD4 : (D4, listOf tv.toArray nt) ∈ (D4, listOf tv.toArray nt) :: (L1 + 1 + 1, oi18) :: (fl, listOf fvs.toArray nf) :: base := .head _
                have htl := paired_length htk
                have hne0 : ps ≠ [] := by
                  obtain ⟨_, _, _, h, _⟩ := hok
                  exact h
                have hpos : 0 < ps.length := List.length_pos_iff.mpr hne0
                obtain ⟨pL, hpL⟩ : ∃ p, ps[ps.length - 1]? = some p := ⟨_, List.getElem?_eq_getElem (by omega)⟩
                have hlast : lastOth ps = pL.isOth := by
                  unfold lastOth
                  rw [List.getLast?_eq_getElem?, hpL]
                  cases pL <;> rfl
                obtain ⟨vL, hvL, aL, nL, vcL, xL, tL, rfl, hmL, hcL⟩ := paired_get' hp hpL
                rw [← hll] at hvL
                k_steps
                · dsimp only
                  k_steps
                  dsimp (config := { zetaDelta := true }) only [TurnOut]
                  k_steps
                  (with_reducible rename Fr _ _ _ _ => kF9)
                  (with_reducible rename News _ _ _ _ => kN9)
                  refine hret .none [] _ _ kF9 (news_sub kN9 fun p hp => .tail _ (.tail _ (.tail _ (hbL p hp)))) ?_
                  rw [hplc, optFold_none (i + 1) (hsucc.trans ?_)]
                  · rfl
                  · exact if_pos (.inl (by omega))
                · refine unbrk ?_
                  (try k_fold)
                  rename_i q24 h24 F24 N24 l24
                  refine eq_nil N24 (.tail _ (.head _)) (.head _) (by walk_at "my room") ?_
                  (try k_fold)
                  k_steps
                  · have htv0 : tv = [] := by assumption
                    have htk0 : takers2 ps lo (countPos ps) (lo + (i : Int)) = [] := List.length_eq_zero_iff.mp (by rw [← htl, htv0]; rfl)
                    refine unbrk ?_
                    (try k_fold)
                    refine sub_last N24 (.tail _ (.tail _ (.tail _ (.tail _ (hbL _ hm))))) hvL ?_
                    (try k_fold)
                    k_steps
                    refine unbrk ?_
                    (try k_fold)
                    refine sub_tup (its := [vcL, _]) N24 (.tail _ (.tail _ (.tail _ (.tail _ (hbL _ hmL))))) (by decide) (by decide) rfl ?_
                    (try k_fold)
                    k_steps
                    refine cho_ne N24 (hcL.mono fun p hp => .tail _ (.tail _ (.tail _ (.tail _ (hbL p hp))))) (by walk_at "my room") ?_
                    cases hO : pL.isOth with
                    | false =>
                      rw [show (!false) = true from rfl]
                      (try k_fold)
                      k_steps
                      dsimp only
                      k_steps
                      dsimp (config := { zetaDelta := true }) only [TurnOut]
                      k_steps
                      (with_reducible rename Fr _ _ _ _ => kF9)
                      (with_reducible rename News _ _ _ _ => kN9)
                      refine hret .none [] _ _ kF9 (news_sub kN9 fun p hp => .tail _ (.tail _ (.tail _ (.tail _ (hbL p hp))))) ?_
                      rw [hplc, optFold_none (i + 1) (hsucc.trans ?_)]
                      · rfl
                      · exact if_pos (.inr ⟨htk0, by rw [hlast, hO]⟩)
                    | true =>
                      rw [show (!true) = false from rfl]
                      (try k_fold)
                      k_steps
                      refine unbrk ?_
                      (try k_fold)
                      rename_i q25 h25 F25 N25 l25
                      refine ne_nil N25 (.tail _ (.tail _ (.head _))) (.head _) (by walk_at "my room") ?_
                      rw [show decide (tv ≠ []) = false from decide_eq_false fun h => h htv0]
                      (try k_fold)
                      k_steps
                      refine len_led N25 (.tail _ (.tail _ (.tail _ (.tail _ (.tail _ (hbL _ hm)))))) (by omega) ?_
                      (try k_fold)
                      k_steps
                      refine unbrk ?_
                      (try k_fold)
                      have hne25 : ∀ p ∈ [(q25, listOf ([] : List Value).toArray 0), (q24, listOf ([] : List Value).toArray 0), (D4, listOf tv.toArray nt), (L1 + 1 + 1, oi18)] ++ base, p.1 ≠ fl := by
                        have z1 := l25.2.2.2.1
                        have z2 := l24.2.2.1
                        exact List.forall_mem_append.mpr ⟨List.forall_mem_cons.mpr ⟨Nat.ne_of_gt z1, List.forall_mem_cons.mpr ⟨Nat.ne_of_gt z2, List.forall_mem_cons.mpr ⟨hD4, List.forall_mem_cons.mpr ⟨Ne.symm hflcell, List.forall_mem_nil _⟩⟩⟩⟩, hnefl⟩
                      (with_reducible rename Fr _ _ _ _ => kF9)
                      (with_reducible rename News _ _ _ _ => kN9)
                      refine append_led kF9 (news_up (pre := [_, _, _, _]) kN9) hne25 (by have := paired_length f2; omega) (fun h27 F27 N27 => ?_)
                      (try k_fold)
                      k_steps
                      have N28 := news_sub (a := (L1 + 1 + 1, oi18) :: (fl, _) :: ((D, listOf ys.toArray k) :: (tlN ++ ((L1 + 1, op) :: led)) ++ own)) N27 (fun p hp => by
                        rcases List.mem_cons.mp hp with rfl | hp
                        · exact .tail _ (.tail _ (.tail _ (.tail _ (.head _))))
                        · rcases List.mem_cons.mp hp with rfl | hp
                          · exact .head _
                          · exact hbase ▸ .tail _ (.tail _ (.tail _ (.tail _ (.tail _ hp)))))
                      have hoff28 : ∀ o : Obj, ∀ q ∈ (L1 + 1 + 1, oi18) :: (fl, o) :: ((D, listOf ys.toArray k) :: (tlN ++ ((L1 + 1, op) :: led))), ∀ p ∈ own, q.1 ≠ p.1 := fun o q hq p hp => by
                        rcases List.mem_cons.mp hq with rfl | hq
                        · exact hoff (L1 + 1 + 1, oi') (.head _) p hp
                        · rcases List.mem_cons.mp hq with rfl | hq
                          · exact hoff (fl, listOf fvs.toArray nf) (.tail _ (.head _)) p hp
                          · exact hoff q (.tail _ (.tail _ hq)) p hp
                      have hstz : placeStep ps lo (countPos ps) fs (lo + (i : Int)) = some (fs ++ [(refs.length : Int) - 1]) := by
                        unfold placeStep
                        rw [if_neg (fun h => h.elim (fun h => by rw [htk0] at h; exact absurd h (by decide)) fun h => by rw [hlast, hO] at h; cases h.2)]
                        rw [htk0, hll]
                      have hl28 : (fs ++ [(refs.length : Int) - 1]).length = i + 1 := by rw [List.length_append, f3]; rfl
                      have hi28 : i + 1 ≤ 1000 := by omega
                      exact ⟨h27, _, _, (L1 + 1 + 1, oi18) :: (fl, _) :: ((D, listOf ys.toArray k) :: (tlN ++ ((L1 + 1, op) :: led))), rfl, F27, N28, hoff28 _, fs ++ [(refs.length : Int) - 1], fvs ++ [_], nf + 1, oi18, _, hsucc.trans hstz, paired_snoc f2 ⟨_, rfl⟩, hl28, hi28, rfl, hd18, rfl, rfl, rfl, f11, rfl⟩
                  · have htv0 : ¬ tv = [] := by assumption
                    refine unbrk ?_
                    (try k_fold)
                    rename_i q25 h25 F25 N25 l25
                    refine ne_nil N25 (.tail _ (.tail _ (.head _))) (.head _) (by walk_at "my room") ?_
                    rw [decide_eq_true htv0]
                    (try k_fold)
                    k_steps
                    refine unbrk ?_
                    (try k_fold)
                    obtain ⟨v0', tv', rfl⟩ : ∃ a b, tv = a :: b := by
                      cases tv with
                      | nil => exact absurd rfl htv0
                      | cons a b => exact ⟨a, b, rfl⟩
                    obtain ⟨x0, hx0, t0, rfl⟩ := paired_get htk (show (v0' :: tv')[0]? = some v0' from rfl)
                    obtain ⟨xs0, hxs0⟩ : ∃ xs, takers2 ps lo (countPos ps) (lo + (i : Int)) = x0 :: xs := by
                      cases hz : takers2 ps lo (countPos ps) (lo + (i : Int)) with
                      | nil => rw [hz] at hx0; cases hx0
                      | cons a b =>
                        rw [hz] at hx0
                        cases hx0
                        exact ⟨_, rfl⟩
                    refine sub_at N25 (.tail _ (.tail _ (.head _))) (by decide) (by decide) rfl ?_
                    (try k_fold)
                    k_steps
                    refine unbrk ?_
                    (try k_fold)
                    have hne25 : ∀ p ∈ [(q25, listOf ([] : List Value).toArray 0), (q24, listOf ([] : List Value).toArray 0), (D4, listOf (Value.int x0 t0 :: tv').toArray nt), (L1 + 1 + 1, oi18)] ++ base, p.1 ≠ fl := by
                      have z1 := l25.2.2.2.1
                      have z2 := l24.2.2.1
                      exact List.forall_mem_append.mpr ⟨List.forall_mem_cons.mpr ⟨Nat.ne_of_gt z1, List.forall_mem_cons.mpr ⟨Nat.ne_of_gt z2, List.forall_mem_cons.mpr ⟨hD4, List.forall_mem_cons.mpr ⟨Ne.symm hflcell, List.forall_mem_nil _⟩⟩⟩⟩, hnefl⟩
                    refine append_led F25 (news_up (pre := [_, _, _, _]) N25) hne25 (by have := paired_length f2; omega) (fun h27 F27 N27 => ?_)
                    (try k_fold)
                    k_steps
                    have N28 := news_sub (a := (L1 + 1 + 1, oi18) :: (fl, _) :: ((D, listOf ys.toArray k) :: (tlN ++ ((L1 + 1, op) :: led)) ++ own)) N27 (fun p hp => by
                      rcases List.mem_cons.mp hp with rfl | hp
                      · exact .tail _ (.tail _ (.tail _ (.tail _ (.head _))))
                      · rcases List.mem_cons.mp hp with rfl | hp
                        · exact .head _
                        · exact hbase ▸ .tail _ (.tail _ (.tail _ (.tail _ (.tail _ hp)))))
                    have hoff28 : ∀ o : Obj, ∀ q ∈ (L1 + 1 + 1, oi18) :: (fl, o) :: ((D, listOf ys.toArray k) :: (tlN ++ ((L1 + 1, op) :: led))), ∀ p ∈ own, q.1 ≠ p.1 := fun o q hq p hp => by
                      rcases List.mem_cons.mp hq with rfl | hq
                      · exact hoff (L1 + 1 + 1, oi') (.head _) p hp
                      · rcases List.mem_cons.mp hq with rfl | hq
                        · exact hoff (fl, listOf fvs.toArray nf) (.tail _ (.head _)) p hp
                        · exact hoff q (.tail _ (.tail _ hq)) p hp
                    have hstz : placeStep ps lo (countPos ps) fs (lo + (i : Int)) = some (fs ++ [x0]) := by
                      unfold placeStep
                      have hlen1 : ¬ (takers2 ps lo (countPos ps) (lo + (i : Int))).length > 1 := by omega
                      rw [if_neg (fun h => h.elim hlen1 fun h => by rw [hxs0] at h; cases h.1)]
                      rw [hxs0]
                    have hl28 : (fs ++ [x0]).length = i + 1 := by rw [List.length_append, f3]; rfl
                    have hi28 : i + 1 ≤ 1000 := by omega
                    exact ⟨h27, _, _, (L1 + 1 + 1, oi18) :: (fl, _) :: ((D, listOf ys.toArray k) :: (tlN ++ ((L1 + 1, op) :: led))), rfl, F27, N28, hoff28 _, fs ++ [x0], fvs ++ [_], nf + 1, oi18, _, hsucc.trans hstz, paired_snoc f2 ⟨_, rfl⟩, hl28, hi28, rfl, hd18, rfl, rfl, rfl, f11, rfl⟩
end
section
set_option maxHeartbeats 8000000 in
theorem av_spec (w : World) (loose : List Str) (mean : ExcName → Option Value) (mg mb : Str → Option Value) {led : Led} {b i : Addr} :
    Calls w loose mean mg mb 3 70 [.ref b, .ref i] led fun h₀ L m s Q => ∀ x dx es n h' tk', (∀ p ∈ led, p.1 < dx) → dx < x → getL (Str.ofString "bounds") es = some (some (.ref b)) → getL (Str.ofString "items") es = some (some (.ref i)) →
      Fr h₀ L h' m → News h₀ L h' ((x, instObj 70 dx) :: (dx, dictOf es n) :: led) → Q (.ref x) { s with heap := h', toks := tk' } := by
  unfold Calls
  k_fill
  intro dp un gd cn cs a ccd cl outer A₀ base h₀ L m s Q E B F X N T hk hd hu hret
  refine call_cls (by assumption) (by assumption) (by assumption) (by k_is) (by k_is) (by k_is) ?_
  intro x dx h13 F13 N13 l13 l14
  k_dflt (refine' code_def ?k1 ?k2 ?k3 ?k4 ?k5 ?kA ?kF ?kK ?k6 ?k7 ?k8 ?k9 ?kB ?_ ?c2 ?c3 ?c4 ?c5; (case kA => exact rfl); (case kF => exact rfl); (case kK => first | exact rfl | assumption); (case k1 => k_asm); (case k2 => k_asm); (case k3 => k_asm); (case k4 => k_asm); (case k5 => k_asm); (case k6 => k_is); (case k7 => k_is); (case k8 => ktr_room); (case k9 => exact BindsTo.of_eq rfl); (case c5 => decide); (case kB => exact locs rfl); (case c2 => exact rfl); (case c3 => exact rfl); (case c4 => exact rfl); k_whole; intro g1 L1 h1 FG1 F1 N1 B1 X1 T1; (try dsimp only); (try k_lift B1); (try k_fold))
  refine foldA ?_
  intro fA
  try (have fR : Around.units fA < cLine := by (simp only [fA, Around.deeper]; omega))
  try (have fR1 : Around.units (Around.in1 fA) < cLine := by (simp only [fA, Around.deeper, Around.in1]; omega))
  refine foldE ?_
  intro fE
  (try k_fold)
  replace F1 : Fr g1 L1 h1 (fun y => List.lookup y [(Str.ofString "items", .ref i), (Str.ofString "bounds", .ref b), (Str.ofString "self", .ref x)]) := F1
  k_steps
  have hU : ∀ p ∈ led, p.1 ≠ dx := fun p hp => Nat.ne_of_lt (l13 p hp)
  refine set_dict F1 X1 N1 (InstAt.of_news N1 (.head _) (.tail _ (.head _))) rfl (by k_is) (by k_is) (by k_is) (by k_is) rfl rfl (.tail (Nat.ne_of_gt l14) (.head hU)) (Nat.le_of_ble_eq_true rfl) (fun h2 F2 N2 => ?_)
  (try k_fold)
  k_steps
  refine set_dict F2 X1 N2 (InstAt.of_news N2 (.head _) (.tail _ (.head _))) rfl (by k_is) (by k_is) (by k_is) (by k_is) rfl rfl (.tail (Nat.ne_of_gt l14) (.head hU)) (Nat.le_of_ble_eq_true rfl) (fun h3 F3 N3 => ?_)
  (try k_fold)
  k_steps
  exact hret x dx _ _ _ _ l13 l14 rfl rfl (by assumption) (by assumption)
end
section
set_option maxHeartbeats 8000000 in
theorem join_spec (w : World) (loose : List Str) (mean : ExcName → Option Value) (mg mb : Str → Option Value) {led : Led} {q rl : Addr} {nr : Nat} {rvs : List Value} {rows : List Row} {r0 : Row}
    (hrl : (rl, listOf rvs.toArray nr) ∈ led) (hrows : Paired (RowIn led) rvs rows) (h0 : rows[0]? = some r0) (hlen : rows.length ≤ 10) (hits : ∀ r ∈ rows, r.its ≠ [] ∧ r.its.length ≤ 10) :
    CallsE w loose mean mg mb 7 137 [.ref q, .ref rl] led led
      (fun h₀ L m s Q => ∀ v tl' h' tk', (∀ r ∈ rows, r.same r0 = true) → JoinIn (tl' ++ led) v q r0.lo r0.hi (rows.flatMap Row.its) → Fr h₀ L h' m → News h₀ L h' (tl' ++ led) → Q v { s with heap := h', toks := tk' })
      (fun wd => wd = Str.ofString "constraint_error" ∧ ∃ r ∈ rows, r.same r0 = false) := by
  unfold CallsE
  k_fill
  intro dp un gd cn cs a ccd cl outer A₀ base h₀ L m s Q E B F X N T hk hd hu hret herr
  refine wpAny_call ?_
  k_dflt (refine' code_def ?k1 ?k2 ?k3 ?k4 ?k5 ?kA ?kF ?kK ?k6 ?k7 ?k8 ?k9 ?kB ?_ ?c2 ?c3 ?c4 ?c5; (case kA => exact rfl); (case kF => exact rfl); (case kK => first | exact rfl | assumption); (case k1 => k_asm); (case k2 => k_asm); (case k3 => k_asm); (case k4 => k_asm); (case k5 => k_asm); (case k6 => k_is); (case k7 => k_is); (case k8 => ktr_room); (case k9 => exact BindsTo.of_eq rfl); (case c5 => decide); (case kB => exact locs rfl); (case c2 => exact rfl); (case c3 => exact rfl); (case c4 => exact rfl); k_whole; intro g1 L1 h1 FG1 F1 N1 B1 X1 T1; (try dsimp only); (try k_lift B1); (try k_fold))
  refine foldA ?_
  intro fA
  try (have fR : Around.units fA < cLine := by (simp only [fA, Around.deeper]; omega))
  try (have fR1 : Around.units (Around.in1 fA) < cLine := by (simp only [fA, Around.deeper, Around.in1]; omega))
  refine foldE ?_
  intro fE
  (try k_fold)
  have hbs : BrkSub := ⟨⟩
  have hll := paired_length hrows
  replace F1 : Fr g1 L1 h1 (fun y => List.lookup y [(Str.ofString "rows", .ref rl), (Str.ofString "bounds", .ref q)]) := F1
  obtain ⟨v0, hv0, x0, dx0, es0, n0, bl0, nb0, ba0, na0, t0, u0, il0, ni0, ivs0, rfl, hx0, hdx0, hgb0, hgi0, hbl0, hba0, hil0, hp0⟩ := paired_get' hrows h0
  k_steps
  refine unbrk ?_
  (try k_fold)
  refine sub_at N1 hrl (by decide) (by decide) hv0 ?_
  (try k_fold)
  k_steps
  refine get_value (X1.keeps (by exact Fr.keep (by assumption))) (InstAt.of_news N1 hx0 hdx0) (by k_is) (findObj_own (by k_is) (by k_is) rfl hgb0) rfl ?_
  (try k_fold)
  k_steps
  rename_i il _ l2 h2 F2 N2
  refine unbrk ?_
  (try k_fold)
  refine wpAny_For (hs := fun _ => rfl) ?_
  k_steps
  refine unbrk ?_
  (try k_fold)
  refine for_list (l := rl) (vs := rvs) (ln := nr) (fun i m₁ nx => ∃ (ivs : List Value) (ni : Nat), (∀ r ∈ rows.take i, r.same r0 = true) ∧ Paired IntV ivs ((rows.take i).flatMap Row.its) ∧ ivs.length ≤ 10 * i ∧ i ≤ 10 ∧ nx = (il, listOf ivs.toArray ni) :: led ∧
    m₁ (Str.ofString "items") = some (.ref il) ∧ m₁ (Str.ofString "inner") = some (.ref bl0) ∧ m₁ (Str.ofString "bounds") = some (.ref q)) rfl F2 N2 ?hl ?hj ?turn ?done ?hE
  case hE => with_unfolding_all passes_own
  case hl =>
    intro i m₁ nx hJ
    obtain ⟨ivs, ni, e1, e2, e3, e4, e5, e6, e7, e8⟩ := hJ
    rw [e5]
    exact .tail _ hrl
  case hj => exact ⟨[], 0, List.forall_mem_nil _, .nil, by simp, by omega, rfl, rfl, rfl, rfl⟩
  case turn =>
    intro i v m₁ nx h7 tk7 own hv hoff hJ F7 N7
    (try k_fold)
    obtain ⟨ivs, ni, e1, e2, e3, e4, e5, e6, e7, e8⟩ := hJ
    subst e5
    obtain ⟨r, hr, x1, dx1, es1, n1, bl1, nb1, ba1, na1, t1, u1, il1, ni1, ivs1, rfl, hx1, hdx1, hgb1, hgi1, hbl1, hba1, hil1, hp1⟩ := paired_get hrows hv
    replace F7 : Fr g1 L1 h7 _ := fr_has3 (a := Str.ofString "items") (b := Str.ofString "inner") (c := Str.ofString "bounds") F7 e6 e7 e8
    replace N7 : News g1 L1 h7 ((il, listOf ivs.toArray ni) :: (led ++ own)) := N7
    have hin : ∀ p ∈ led, p ∈ (il, listOf ivs.toArray ni) :: (led ++ own) := fun p hp => .tail _ (List.mem_append_left _ hp)
    have hbl1' := hin _ hbl1
    k_steps
    (with_reducible rename Fr _ _ _ _ => kF)
    (with_reducible rename News _ _ _ _ => kN)
    refine get_value (X1.keeps kF.keep) (InstAt.of_news kN (hin _ hx1) (hin _ hdx1)) (by k_is) (findObj_own (by k_is) (by k_is) rfl hgb1) rfl ?_
    (try k_fold)
    k_steps
    rename_i D1 c1 h8 F8 N8 l8
    have hb2 : (bl0, listOf [Value.ref ba0].toArray nb0) ∈ (D1, listOf #[Value.ref ba1] c1) :: (il, listOf ivs.toArray ni) :: (led ++ own) := .tail _ (hin _ hbl0)
    k_steps
    refine unbrk ?_
    (try k_fold)
    rename_i D2 c2 h9 F9 N9 l9
    refine bds_ne N9 (.tail _ (.head _)) (.head _) (.tail _ (.tail _ (hin _ hba1))) (.tail _ (.tail _ (hin _ hba0))) (by walk_at "my room") (by walk_at "my room") ?_
    rw [show decide (r.lo = r0.lo ∧ r.hi = r0.hi) = r.same r0 from rfl]
    cases hsm : r.same r0 with
    | false =>
      rw [show (!false) = true from rfl]
      (try k_fold)
      k_steps
      refine unbrk ?_
      (try k_fold)
      refine' (raise_spec w loose mean mg mb) _ _ _ _ _ _ _ _ _ _ _ _ _ _ _ _ _ (by assumption) (by assumption) (by assumption) (by assumption) (by assumption) (by first | exact rfl | assumption) ?kd1 ?ku1 ?kr1 ?ke1
      case kd1 => first | omega | (dsimp only [ktrTop, Around.deeper, Around.mark, Around.in1]; omega) | exact Nat.le_of_ble_eq_true rfl
      case ku1 => first | omega | (dsimp only [ktrTop, Around.deeper, Around.mark, Around.in1]; omega) | exact Nat.le_of_ble_eq_true rfl
      case kr1 => trivial
      intro gg ee dx hh tk9 wd es nn Fg ug fl9 hw hwd
      k_steps
      refine unbrk ?_
      (try k_fold)
      refine leave_flown B1 Fg fl9 ug (fun h9 fx9 up9 => ?_)
      (try k_fold)
      exact herr g1 ee dx h9 _ wd es nn FG1 up9 (fx9.tl fun p hp => .tail _ (.tail _ (hin p hp))) ⟨hw, r, List.mem_of_getElem? hr, hsm⟩ hwd
    | true =>
      rw [show (!true) = false from rfl]
      (try k_fold)
      k_steps
      (with_reducible rename Fr _ _ _ _ => kF)
      (with_reducible rename News _ _ _ _ => kN)
      refine get_value (X1.keeps kF.keep) (InstAt.of_news kN (.tail _ (.tail _ (hin _ hx1))) (.tail _ (.tail _ (hin _ hdx1)))) (by k_is) (findObj_own (by k_is) (by k_is) rfl hgi1) rfl ?_
      (try k_fold)
      k_steps
      (with_reducible rename Fr _ _ _ _ => kF)
      (with_reducible rename News _ _ _ _ => kN)
      have hne : ∀ p ∈ [(D2, listOf [Value.ref ba0].toArray c2), (D1, listOf [Value.ref ba1].toArray c1)] ++ (led ++ own), p.1 ≠ il :=
        List.forall_mem_append.mpr ⟨List.forall_mem_cons.mpr ⟨Nat.ne_of_gt l9.2.1, List.forall_mem_cons.mpr ⟨Nat.ne_of_gt l8.1, List.forall_mem_nil _⟩⟩, List.forall_mem_append.mpr ⟨fun p hp => Nat.ne_of_lt (l2 p hp), fun p hp => Ne.symm (hoff _ (.head _) p hp)⟩⟩
      have hri := hits r (List.mem_of_getElem? hr)
      have hi1 := paired_length hp1
      have hi9 : i < rows.length := by
        rcases Nat.lt_or_ge i rows.length with h | h
        · exact h
        · rw [List.getElem?_eq_none h] at hr; cases hr
      refine extend_led (xs := ivs) (ys := ivs1) kF (news_up (pre := [_, _]) kN) (.tail _ (.tail _ (show (il1, listOf ivs1.toArray ni1) ∈ led ++ own from List.mem_append_left _ hil1))) hne (fun e => hri.1 (List.length_eq_zero_iff.mp (by rw [← hi1, e]; rfl))) (by omega) (fun h12 F12 N12 => ?_)
      (try k_fold)
      k_steps
      have hl9 : (ivs ++ ivs1).length ≤ 10 * (i + 1) := by rw [List.length_append]; omega
      have hs9 : ∀ r' ∈ rows.take (i + 1), r'.same r0 = true := by
        rw [List.take_succ, hr]
        exact List.forall_mem_append.mpr ⟨e1, List.forall_mem_cons.mpr ⟨hsm, List.forall_mem_nil _⟩⟩
      have hf9 : Paired IntV (ivs ++ ivs1) ((rows.take (i + 1)).flatMap Row.its) := by
        rw [List.take_succ, hr, List.flatMap_append]
        refine paired_app ?_ e2
        simpa using hp1
      exact ⟨h12, _, _, (il, listOf (ivs ++ ivs1).toArray (ni + 1)) :: led, rfl, F12, news_sub N12 fun p hp => by
        rcases List.mem_cons.mp hp with rfl | hp
        · exact .head _
        · exact .tail _ (.tail _ (.tail _ hp)), fun q hq p hp => by
        rcases List.mem_cons.mp hq with rfl | hq
        · exact hoff (il, listOf ivs.toArray ni) (.head _) p hp
        · exact hoff q (.tail _ hq) p hp, ivs ++ ivs1, ni + 1, hs9, hf9, hl9, by omega, rfl, rfl, rfl, rfl⟩
  case done =>
    intro m₁ nx h7 tk7 hJ F7 N7
    (try k_fold)
    obtain ⟨ivs, ni, e1, e2, e3, e4, e5, e6, e7, e8⟩ := hJ
    subst e5
    rw [List.take_of_length_le (Nat.le_of_eq hll.symm)] at e1 e2
    replace F7 : Fr g1 L1 h7 _ := fr_has3 (a := Str.ofString "items") (b := Str.ofString "inner") (c := Str.ofString "bounds") F7 e6 e7 e8
    replace N7 : News g1 L1 h7 ((il, listOf ivs.toArray ni) :: led) := N7
    k_steps
    refine unbrk ?_
    (try k_fold)
    rename_i q10 h10 l10 D11 c11 h11 F11 N11 l11
    refine add_led F11 N11 (.tail _ (.head _)) (.head _) (by simp) (fun D12 h12 F12 N12 l12 => ?_)
    (try k_fold)
    k_steps
    refine unbrk ?_
    (try k_fold)
    refine' (av_spec w loose mean mg mb) _ _ _ _ _ _ _ _ _ _ _ _ _ _ _ _ _ (by assumption) (by assumption) (by assumption) (by assumption) (by assumption) (by first | exact rfl | assumption) ?kd2 ?ku2 ?kr2
    case kd2 => first | omega | (dsimp only [ktrTop, Around.deeper, Around.mark, Around.in1]; omega) | exact Nat.le_of_ble_eq_true rfl
    case ku2 => first | omega | (dsimp only [ktrTop, Around.deeper, Around.mark, Around.in1]; omega) | exact Nat.le_of_ble_eq_true rfl
    intro x dx es n h13 tk13 l13 l14 g13 g14 F13 N13
    k_steps
    exact hret (.ref x) [(x, instObj 70 dx), (dx, dictOf es n), (D12, listOf [Value.ref q, .ref ba0].toArray 0), (D11, listOf [Value.ref ba0].toArray c11), (q10, listOf [Value.ref q].toArray 0), (il, listOf ivs.toArray ni)] _ _ e1
      ⟨x, dx, es, n, D12, 0, ba0, na0, t0, u0, il, ni, ivs, rfl, .head _, .tail _ (.head _), g13, g14, .tail _ (.tail _ (.head _)), .tail _ (.tail _ (.tail _ (.tail _ (.tail _ (.tail _ hba0))))), .tail _ (.tail _ (.tail _ (.tail _ (.tail _ (.head _))))), e2⟩ (by assumption) (by assumption)
end
section
set_option maxHeartbeats 8000000 in
theorem ljoined_spec (w : World) (loose : List Str) (mean : ExcName → Option Value) (mg mb : Str → Option Value) {led : Led} {q rl : Addr} {nr : Nat} {rvs : List Value} {rows : List Row} {r0 : Row}
    (hrl : (rl, listOf rvs.toArray nr) ∈ led) (hrows : Paired (RowIn led) rvs rows) (h0 : rows[0]? = some r0) (hlen : rows.length ≤ 10) (hits : ∀ r ∈ rows, r.its ≠ [] ∧ r.its.length ≤ 10) :
    ∀ (dp un : Nat) (gd : Option (List Code)) (cn : Str) (cs : Scope) (a : Addr) (ccd : Value) (cl : List (Str × Addr)) (outer : List Env) (A₀ : Around) (base h₀ : Heap) (L : Addr) (m : Str → Option Value) (s : Shared) (Q E : Value → Shared → Prop),
    Below A₀ base outer h₀ → Fr h₀ L s.heap m → (Mine.hd.heap_39 w.params).In h₀ → News h₀ L s.heap led → Top Mine.view loose mean mg mb h₀ → (Mine.hd.heap_39 w.params).In base → Top Mine.view loose mean mg mb base → KtsDicts (frs outer) h₀ → cs.kind = .function → dp + 10 < recursionLimit → un + 100 * 10 < cLine →
    (∀ v tl' h' tk' h₀', KtsTurn (frs outer) h₀ h₀' → Fr h₀' L h' m → News h₀' L h' (tl' ++ led) → Below A₀ base outer h₀' →
      (((∃ r ∈ rows, r.same r0 = false) ∧ ∃ t, v = .str (Str.ofString "constraint_error") t) ∨ ((∀ r ∈ rows, r.same r0 = true) ∧ JoinIn (tl' ++ led) v q r0.lo r0.hi (rows.flatMap Row.its))) → Q v { s with heap := h', toks := tk' }) →
    wpAny (model PySem.Challenge.rw_pb0005_01.row.prog w) (ktrTop dp un gd cn cs L a ccd cl outer) (call (.ref 207) [.ref q, .ref rl]) Q E s := by
  k_fill
  intro dp un gd cn cs' a ccd cl outer A₀ base h₀ L m s Q E B F X N T XB TB D0 hk hd hu hret
  refine wpAny_call ?_
  k_dflt (refine' code_T ?k1 ?k2 ?k3 ?k4 ?k5 ?kD0 ?kA ?kF ?kK ?k6 ?k7 ?k8 ?k9 ?kB ?_ ?c2 ?c3 ?c4 ?c5; (case kD0 => assumption); (case kA => exact rfl); (case kF => exact rfl); (case kK => first | exact rfl | assumption); (case k1 => k_asm); (case k2 => k_asm); (case k3 => k_asm); (case k4 => k_asm); (case k5 => k_asm); (case k6 => k_is); (case k7 => k_is); (case k8 => ktr_room); (case k9 => exact BindsTo.of_eq rfl); (case c5 => decide); (case kB => exact locs rfl); (case c2 => exact rfl); (case c3 => exact rfl); (case c4 => exact rfl); k_whole; intro g1 L1 h1 FG1 F1 N1 B1 X1 T1 D1; (try dsimp only); (try k_lift B1); (try k_fold))
  refine foldA ?_
  intro fA
  try (have fR : Around.units fA < cLine := by (simp only [fA, Around.deeper]; omega))
  try (have fR1 : Around.units (Around.in1 fA) < cLine := by (simp only [fA, Around.deeper, Around.in1]; omega))
  refine foldE ?_
  intro fE
  (try k_fold)
  replace F1 : Fr g1 L1 h1 (fun y => List.lookup y [(Str.ofString "rows", .ref rl), (Str.ofString "bounds", .ref q)]) := F1
  k_steps
  refine unbrk ?_
  (try k_fold)
  refine' (join_spec w loose mean mg mb hrl hrows h0 hlen hits) _ _ _ _ _ _ _ _ _ _ _ _ _ _ _ _ _ (by assumption) (by assumption) (by assumption) (by assumption) (by assumption) (by first | exact rfl | assumption) ?kd1 ?ku1 ?kr1 ?ke1
  case kd1 => first | omega | (dsimp only [ktrTop, Around.deeper, Around.mark, Around.in1]; omega) | exact Nat.le_of_ble_eq_true rfl
  case ku1 => first | omega | (dsimp only [ktrTop, Around.deeper, Around.mark, Around.in1]; omega) | exact Nat.le_of_ble_eq_true rfl
  case kr1 =>
    intro v tl' h2 tk2 hall hj F2 N2
    k_steps
    exact ⟨g1, L1, _, tl' ++ led, KtsTurn.refl, F2, N2, fun h₀' TT FF NN BB => hret v tl' h2 tk2 h₀' TT FF NN BB (.inr ⟨hall, hj⟩)⟩
  case ke1 =>
    intro gg ee dx hh tk9 wd es nn Fg ug fl9 hw hwd
    refine caught_exc fl9 Fg B1 ug XB TB D1 KtsTurn.refl (by k_is) rfl (fun h2 g2 oe ws tk2 T2 F2 N2 hoc hod hof K2 X2 TT2 D2 => ?_)
    (try k_fold)
    k_steps
    obtain ⟨tw, hw2⟩ := hwd
    have I2 : InstAt h2 ee oe 51 (some (dictOf es nn)) := ⟨(N2 _ (.head _)).1, hoc, by
      obtain ⟨_, _, dt, _⟩ := oe
      cases hof
      rfl, by
      rw [hod]
      exact (N2 _ (.tail _ (.head _))).1⟩
    refine get_exc (X2.keeps F2.keep) I2 (by k_is) (by k_is) (by k_is) (findObj_own (by k_is) (by k_is) rfl hw2) rfl ?_
    (try k_fold)
    k_steps
    (with_reducible rename Fr _ _ _ _ => kF)
    (with_reducible rename News _ _ _ _ => kN)
    exact ⟨g2, L1, _, (ee, oe) :: (dx, dictOf es nn) :: led, T2, kF, kN, fun h₀' TT FF NN BB => hret _ [(ee, oe), (dx, dictOf es nn)] _ _ h₀' TT FF NN BB (.inl ⟨hw.2, tw, by rw [hw.1]⟩)⟩
end
section
theorem store_cell {prog : Program} {w : World} {A : Around} {E : Value → Shared → Prop} {s : Shared} {h₀ : Heap} {L : Addr} {m : Str → Option Value} {cenv : Env} {x : Str} {v : Value} {c : Addr} {o : Obj} {v₀ : Option Value} {led : Led} {Q : Unit → Shared → Prop} (hk : cenv.scope.kind = .function) (hx : cenv.kindOf x = some .cell) (hc : cenv.cells.lookup x = some c)
    (F : Fr h₀ L s.heap m) (N : News h₀ L s.heap ((c, o) :: led)) (hd : o.data = .cell v₀) (hne : ∀ p ∈ led, p.1 ≠ c)
    (h : ∀ h' o', o'.data = .cell (some v) → Fr h₀ L h' m → News h₀ L h' ((c, o') :: led) → Q () { s with heap := h' }) :
    wpAny (model prog w) A (storeName cenv x v) Q E s := by
  have hc0 := N _ (.head _)
  refine wpAny_storeName_cell hk hx hc ⟨o, hc0.1, hd⟩ fun h' hi hs => ?_
  obtain ⟨o', ho', hd'⟩ := hi
  refine h h' o' hd' ⟨F.ns.at' fun o e => (hs.2 _ (Ne.symm hc0.2.1)).trans e, fun b o e => (hs.2 b (fun q => by rw [q, hc0.2.2] at e; cases e)).trans (F.keep b o e), F.above⟩ fun p hp => ?_
  rcases List.mem_cons.mp hp with rfl | hp
  · exact ⟨ho', hc0.2⟩
  · have := N p (.tail _ hp)
    exact ⟨(hs.2 _ (hne p hp)).trans this.1, this.2⟩
theorem news_rot4 {h₀ h : Heap} {L : Addr} {a b c d : Addr × Obj} {r : Led} (N : News h₀ L h (d :: a :: b :: c :: r)) : News h₀ L h (a :: b :: c :: d :: r) := fun p hp => N p (by
  rcases List.mem_cons.mp hp with rfl | hp
  · exact .tail _ (.head _)
  · rcases List.mem_cons.mp hp with rfl | hp
    · exact .tail _ (.tail _ (.head _))
    · rcases List.mem_cons.mp hp with rfl | hp
      · exact .tail _ (.tail _ (.tail _ (.head _)))
      · rcases List.mem_cons.mp hp with rfl | hp
        · exact .head _
        · exact .tail _ (.tail _ (.tail _ (.tail _ hp))))
def RowOk (r : Row) : Prop := r.its ≠ [] ∧ r.its.length ≤ 10
set_option maxHeartbeats 8000000 in
theorem right_spec (w : World) (loose : List Str) (mean : ExcName → Option Value) (mg mb : Str → Option Value) {rest : Led} {sk bk : Addr} {spot : Int} {t : Tok} {n nb : Nat} {vs : List Value} {ns : List Int}
    (hb : (bk, listOf vs.toArray nb) ∈ rest) (hsk : ∀ p ∈ rest, p.1 ≠ sk) (hi : IntsAre vs ns) (hlen : ns.length ≤ 40) (h0 : 0 ≤ spot) (h1 : spot < 700) :
    ∀ (dp un : Nat) (gd : Option (List Code)) (cn : Str) (cs : Scope) (a : Addr) (ccd : Value) (cl : List (Str × Addr)) (outer : List Env) (A₀ : Around) (base h₀ : Heap) (L : Addr) (m : Str → Option Value) (s : Shared) (Q E : Value → Shared → Prop),
    Below A₀ base outer h₀ → Fr h₀ L s.heap m → (Mine.hd.heap_39 w.params).In h₀ → News h₀ L s.heap ((sk, sackO bk spot t n) :: rest) → Top Mine.view loose mean mg mb h₀ → (Mine.hd.heap_39 w.params).In base → Top Mine.view loose mean mg mb base → KtsDicts (frs outer) h₀ → cs.kind = .function → dp + 12 < recursionLimit → un + 100 * 12 < cLine →
    (∀ h' tk' h₀', KtsTurn (frs outer) h₀ h₀' → Fr h₀' L h' m → Q (.bool true) { s with heap := h', toks := tk' }) →
    wpAny (model PySem.Challenge.rw_pb0005_01.row.prog w) (ktrTop dp un gd cn cs L a ccd cl outer) (call (.ref 212) [.ref sk]) Q E s := by
  k_fill
  intro dp un gd cn cs' a ccd cl outer A₀ base h₀ L m s Q E B F X N T XB TB D0 hk hd hu hret
  have hvl : vs.length = ns.length := hi.length
  refine wpAny_call ?_
  k_dflt (refine' code_TC ?k1 ?k2 ?k3 ?k4 ?k5 ?kD0 ?kA ?kF ?kK ?k6 ?k7 ?k8 ?k9 ?kB ?kD ?_ ?c2 ?c3 ?c4; (case kD0 => assumption); (case kA => exact rfl); (case kF => exact rfl); (case kK => first | exact rfl | assumption); (case k1 => k_asm); (case k2 => k_asm); (case k3 => k_asm); (case k4 => k_asm); (case k5 => k_asm); (case k6 => k_is); (case k7 => k_is); (case k8 => ktr_room); (case k9 => exact BindsTo.of_eq rfl); (case kB => exact rfl); (case kD => decide +kernel); (case c2 => exact rfl); (case c3 => exact rfl); (case c4 => exact rfl); k_whole; intro g1 L1 h1 tk1 cellsY FG1 F1 N1 hY B1 X1 T1 l1 D1; (try k_lt l1); k_cells hY; (try simp only [List.cons_append, List.nil_append] at N1); (try dsimp only); (try k_lift B1); (try k_fold))
  rename_i oT oR d1 d2
  refine foldA ?_
  intro fA
  try (have fR : Around.units fA < cLine := by (simp only [fA, Around.deeper]; omega))
  try (have fR1 : Around.units (Around.in1 fA) < cLine := by (simp only [fA, Around.deeper, Around.in1]; omega))
  refine foldE ?_
  intro fE
  (try k_fold)
  have hbs : BrkSub := ⟨⟩
  replace F1 : Fr g1 L1 h1 (fun y => if y = Str.ofString "sack" then some (.ref sk) else none) := F1
  replace d2 : oR.data = .cell none := d2
  replace d1 : oT.data = .cell none := d1
  k_steps
  rename_i rl h2 F2 N2 l2
  have hrest : ∀ p ∈ rest, p.1 < L1 := lt_all l1.2
  have hneR : ∀ p ∈ [(rl, listOf ([] : List Value).toArray 0), (L1 + 1 + 1, oT)] ++ (sk, sackO bk spot t n) :: rest, p.1 ≠ L1 + 1 :=
    List.forall_mem_append.mpr ⟨List.forall_mem_cons.mpr ⟨Nat.ne_of_gt l2.2.1, List.forall_mem_cons.mpr ⟨Nat.ne_of_gt (Nat.lt_succ_self _), List.forall_mem_nil _⟩⟩, List.forall_mem_cons.mpr ⟨Nat.ne_of_lt (Nat.lt_succ_of_lt l1.1), fun p hp => Nat.ne_of_lt (Nat.lt_succ_of_lt (hrest p hp))⟩⟩
  refine store_cell rfl rfl rfl F2 (news_up (pre := [_, _]) N2) d2 hneR (fun h3 oR3 hR3 F3 N3 => ?_)
  (try k_fold)
  replace N3 : News g1 L1 h3 ((sk, sackO bk spot t n) :: (rl, listOf ([] : List Value).toArray 0) :: (L1 + 1, oR3) :: (L1 + 1 + 1, oT) :: rest) := news_sub N3 (by walk_at "my sub")
  have hne0 : ∀ p ∈ (rl, listOf ([] : List Value).toArray 0) :: (L1 + 1, oR3) :: (L1 + 1 + 1, oT) :: rest, p.1 ≠ sk :=
    List.forall_mem_cons.mpr ⟨Nat.ne_of_gt l2.2.2.1, List.forall_mem_cons.mpr ⟨Nat.ne_of_gt (Nat.lt_succ_of_lt l1.1), List.forall_mem_cons.mpr ⟨Nat.ne_of_gt (Nat.lt_succ_of_lt (Nat.lt_succ_of_lt l1.1)), hsk⟩⟩⟩
  k_steps
  refine unbrk ?_
  (try k_fold)
  refine wpAny_For (hs := fun _ => rfl) ?_
  k_steps
  refine unbrk ?_
  (try k_fold)
  refine' (grab_spec w loose mean mg mb (rest := (rl, listOf ([] : List Value).toArray 0) :: (L1 + 1, oR3) :: (L1 + 1 + 1, oT) :: rest) (.tail _ (.tail _ (.tail _ hb))) hne0 (by assumption) hlen h0 (by omega) (by decide) (by decide)) _ _ _ _ _ _ _ _ _ _ _ _ _ _ _ _ _ (by assumption) (by assumption) (by assumption) (by assumption) (by assumption) (by first | exact rfl | assumption) ?kd1 ?ku1 ?kr1
  case kd1 => first | omega | (dsimp only [ktrTop, Around.deeper, Around.mark, Around.in1]; omega) | exact Nat.le_of_ble_eq_true rfl
  case ku1 => first | omega | (dsimp only [ktrTop, Around.deeper, Around.mark, Around.in1]; omega) | exact Nat.le_of_ble_eq_true rfl
  intro r5 tr5 t5 h5 tk5 r50 r51 F5 N5
  k_steps
  refine unbrk ?_
  (try k_fold)
  refine for_range (n := (1 + r5 - 0).toNat) (fun i m₁ nx => ∃ (rows : List Row) (rvs : List Value) (nrl : Nat) (tl : Led) (spot' : Int) (t' : Tok) (oT' : Obj) (v0 : Option Value), rows.length = i ∧ Paired (RowIn (tl ++ rest)) rvs rows ∧
    nx = (sk, sackO bk spot' t' n) :: (rl, listOf rvs.toArray nrl) :: (L1 + 1, oR3) :: (L1 + 1 + 1, oT') :: (tl ++ rest) ∧ oT'.data = .cell v0 ∧ (∀ p ∈ tl, p.1 ≠ sk ∧ p.1 ≠ rl ∧ p.1 ≠ L1 + 1 + 1) ∧ 0 ≤ spot' ∧ spot' ≤ spot + 1 + 2 * i ∧ i ≤ 3 ∧ (∀ r ∈ rows, RowOk r) ∧ m₁ (Str.ofString "sack") = some (.ref sk))
    rfl (by assumption) (small_one (by omega) (by omega) (by omega) (by omega)) (rangeSize_nat _ _) (by assumption) (by assumption) ⟨[], [], 0, [], spot + 1, t5, oT, none, rfl, .nil, rfl, d1, List.forall_mem_nil _, by omega, by omega, by omega, List.forall_mem_nil _, rfl⟩ ?turn ?done ?hE
  case hE => with_unfolding_all passes_own
  case turn =>
    intro i ti m₁ nx h7 tk7 own hi7 hoff hJ F7 N7
    (try k_fold)
    obtain ⟨rows, rvs, nrl, tl, spot', t', oT', v0, e1, e2, e3, e4, e5, e6, e7, e8, e9, e10⟩ := hJ
    subst e3
    have hr1 := l2.2.1
    have hr2 := l2.1
    have hr3 := l2.2.2.1
    have hneT : ∀ p ∈ [(sk, sackO bk spot' t' n), (rl, listOf rvs.toArray nrl), (L1 + 1, oR3)] ++ ((tl ++ rest) ++ own), p.1 ≠ L1 + 1 + 1 :=
      List.forall_mem_append.mpr ⟨List.forall_mem_cons.mpr ⟨Nat.ne_of_lt (Nat.lt_succ_of_lt (Nat.lt_succ_of_lt l1.1)), List.forall_mem_cons.mpr ⟨Nat.ne_of_gt hr2, List.forall_mem_cons.mpr ⟨Nat.ne_of_lt (Nat.lt_succ_self _), List.forall_mem_nil _⟩⟩⟩,
        List.forall_mem_append.mpr ⟨List.forall_mem_append.mpr ⟨fun p hp => (e5 p hp).2.2, fun p hp => Nat.ne_of_lt (Nat.lt_succ_of_lt (Nat.lt_succ_of_lt (hrest p hp)))⟩, fun p hp => Ne.symm (hoff _ (.tail _ (.tail _ (.tail _ (.head _)))) p hp)⟩⟩
    refine bind_cell rfl rfl rfl F7 (news_up (pre := [_, _, _]) N7) e4 hneT (fun h8 oT8 hT8 F8 N8 => ?_)
    replace F8 : Fr g1 L1 h8 _ := fr_has F8 e10
    obtain ⟨base2, hbase⟩ : ∃ b, b = (tl ++ rest) ++ own := ⟨_, rfl⟩
    replace N8 : News g1 L1 h8 ((sk, sackO bk spot' t' n) :: (rl, listOf rvs.toArray nrl) :: (L1 + 1, oR3) :: (L1 + 1 + 1, oT8) :: base2) := by
      rw [hbase]
      exact news_rot4 N8
    have hb2 : (bk, listOf vs.toArray nb) ∈ base2 := hbase ▸ List.mem_append_left _ (List.mem_append_right _ hb)
    have hne2 : ∀ p ∈ base2, p.1 ≠ sk ∧ p.1 ≠ rl ∧ p.1 ≠ L1 + 1 + 1 := by
      intro p hp
      rw [hbase] at hp
      rcases List.mem_append.mp hp with hp | hp
      · rcases List.mem_append.mp hp with hp | hp
        · exact e5 p hp
        · exact ⟨hsk p hp, Nat.ne_of_lt (Nat.lt_trans (Nat.lt_succ_of_lt (hrest p hp)) hr1), Nat.ne_of_lt (Nat.lt_succ_of_lt (Nat.lt_succ_of_lt (hrest p hp)))⟩
      · exact ⟨Ne.symm (hoff _ (.head _) p hp), Ne.symm (hoff _ (.tail _ (.head _)) p hp), Ne.symm (hoff _ (.tail _ (.tail _ (.tail _ (.head _)))) p hp)⟩
    have hbi : BrkIf := ⟨⟩
    k_steps
    refine unbrk ?_
    (try k_fold)
    have hne3 : ∀ p ∈ (rl, listOf rvs.toArray nrl) :: (L1 + 1, oR3) :: (L1 + 1 + 1, oT8) :: base2, p.1 ≠ sk :=
      List.forall_mem_cons.mpr ⟨Nat.ne_of_gt hr3, List.forall_mem_cons.mpr ⟨Nat.ne_of_gt (Nat.lt_succ_of_lt l1.1), List.forall_mem_cons.mpr ⟨Nat.ne_of_gt (Nat.lt_succ_of_lt (Nat.lt_succ_of_lt l1.1)), fun p hp => (hne2 p hp).1⟩⟩⟩
    refine cut_next (R := fun s' => ∃ h9 tk9 low tl9 t9, s' = { s with heap := h9, toks := tk9 } ∧ Fr g1 L1 h9 (fun y => if y = Str.ofString "low" then some (.int low tl9) else if y = Str.ofString "sack" then some (.ref sk) else m₁ y) ∧
      News g1 L1 h9 ((sk, sackO bk (spot' + 1) t9 n) :: (rl, listOf rvs.toArray nrl) :: (L1 + 1, oR3) :: (L1 + 1 + 1, oT8) :: base2) ∧ 1 ≤ low ∧ low ≤ 2) ?first ?tail
    case first =>
      k_steps
      refine unbrk ?_
      (try k_fold)
      refine' (grab_spec w loose mean mg mb (rest := (rl, listOf rvs.toArray nrl) :: (L1 + 1, oR3) :: (L1 + 1 + 1, oT8) :: base2) (.tail _ (.tail _ (.tail _ hb2))) hne3 (by assumption) hlen e6 (by omega) (by decide) (by decide)) _ _ _ _ _ _ _ _ _ _ _ _ _ _ _ _ _ (by assumption) (by assumption) (by assumption) (by assumption) (by assumption) (by first | exact rfl | assumption) ?kd2 ?ku2 ?kr2
      case kd2 => first | omega | (dsimp only [ktrTop, Around.deeper, Around.mark, Around.in1]; omega) | exact Nat.le_of_ble_eq_true rfl
      case ku2 => first | omega | (dsimp only [ktrTop, Around.deeper, Around.mark, Around.in1]; omega) | exact Nat.le_of_ble_eq_true rfl
      intro r9 tr9 t9 h9 tk9 r90 r91 F9 N9
      k_steps
      all_goals exact meet ⟨by trivial, _, _, _, _, _, rfl, by assumption, by assumption, by decide, by decide⟩
    case tail =>
      intro s2 hR
      obtain ⟨h9, tk9, low, tl9, t9, e9', F9, N9, b1, b2⟩ := hR
      subst e9'
      have hbi : BrkIf := ⟨⟩
      k_steps
      refine unbrk ?_
      (try k_fold)
      refine cut_next (R := fun s' => ∃ h9 tk9 count tl9' t9, s' = { s with heap := h9, toks := tk9 } ∧ Fr g1 L1 h9 (fun y => if y = Str.ofString "count" then some (.int count tl9') else if y = Str.ofString "low" then some (.int low tl9) else if y = Str.ofString "sack" then some (.ref sk) else m₁ y) ∧
        News g1 L1 h9 ((sk, sackO bk (spot' + 2) t9 n) :: (rl, listOf rvs.toArray nrl) :: (L1 + 1, oR3) :: (L1 + 1 + 1, oT8) :: base2) ∧ 2 ≤ count ∧ count ≤ 3) ?first2 ?tail2
      case first2 =>
        k_steps
        refine unbrk ?_
        (try k_fold)
        refine' (grab_spec w loose mean mg mb (spot := spot' + 1) (rest := (rl, listOf rvs.toArray nrl) :: (L1 + 1, oR3) :: (L1 + 1 + 1, oT8) :: base2) (.tail _ (.tail _ (.tail _ hb2))) hne3 (by assumption) hlen (by omega) (by omega) (by decide) (by decide)) _ _ _ _ _ _ _ _ _ _ _ _ _ _ _ _ _ (by assumption) (by assumption) (by assumption) (by assumption) (by assumption) (by first | exact rfl | assumption) ?kd3 ?ku3 ?kr3
        case kd3 => first | omega | (dsimp only [ktrTop, Around.deeper, Around.mark, Around.in1]; omega) | exact Nat.le_of_ble_eq_true rfl
        case ku3 => first | omega | (dsimp only [ktrTop, Around.deeper, Around.mark, Around.in1]; omega) | exact Nat.le_of_ble_eq_true rfl
        intro r10 tr10 t10 h10 tk10 r100 r101 F10 N10
        rw [show spot' + 1 + 1 = spot' + 2 by omega] at N10
        k_steps
        all_goals exact meet ⟨by trivial, _, _, _, _, _, rfl, by assumption, by assumption, by decide, by decide⟩
      case tail2 =>
        intro s3 hR3'
        obtain ⟨h10, tk10, count, tl10, t10, e10', F10, N10, b3, b4⟩ := hR3'
        subst e10'
        k_steps
        rename_i ba _ l11 bl h12 F12 N12 l12
        refine unbrk ?_
        (try k_fold)
        refine lc_none (cl := [(Str.ofString "turn", L1 + 1 + 1)]) rfl rfl (by decide) (fun _ => rfl) ?_
        k_steps
        refine unbrk ?_
        (try k_fold)
        obtain ⟨led12, hled12⟩ : ∃ l, l = (bl, listOf [Value.ref ba].toArray 0) :: (ba, tupOf #[Value.int low tl9, Value.int (low + count - 1) (tk10 + 1 + 1)] 0) :: (sk, sackO bk (spot' + 2) t10 n) :: (rl, listOf rvs.toArray nrl) :: (L1 + 1, oR3) :: (L1 + 1 + 1, oT8) :: base2 := ⟨_, rfl⟩
        have hcT : (L1 + 1 + 1, oT8) ∈ led12 := by
          rw [hled12]
          exact .tail _ (.tail _ (.tail _ (.tail _ (.tail _ (.head _)))))
        (with_reducible rename Fr _ _ _ _ => kF)
        (with_reducible rename News _ _ _ _ => kN)
        replace kN := news_sub (a := led12) kN (fun p hp => by rw [hled12] at hp; exact hp)
        refine comp_range (n := (count - 0).toNat) rfl (by assumption) (small_one (by omega) (by omega) (by omega) (by omega)) (rangeSize_nat _ _) (fun j ys nx => nx = led12 ∧ (∃ xs, Paired IntV ys xs ∧ xs.length = j) ∧ j ≤ 3) ?hlen7 kF kN ⟨rfl, ⟨[], .nil, rfl⟩, by omega⟩ (by decide) rfl ?turn7 ?done7
        case hlen7 =>
          intro j ys nx hJ
          obtain ⟨f1, ⟨xs, f2, f3⟩, f4⟩ := hJ
          have := paired_length f2
          omega
        case turn7 =>
          intro C D j tj h14 tk14 nx oC cm ys k ow Bk hj14 F14 N14 off14 hns14 hJ
          (try k_fold)
          obtain ⟨f1, ⟨xs, f2, f3⟩, f4⟩ := hJ
          subst f1
          refine bind_name Bk rfl rfl F14 N14 off14 hns14 (fun h15 oC15 F15 N15 off15 hns15 => ?_)
          refine ⟨oC15, _, hns15, ?_⟩
          refine wpAny_tests_nil ?_
          rw [if_pos rfl]
          have hcT15 : (L1 + 1 + 1, oT8) ∈ nx ++ blk C oC15 D ys k ow := List.mem_append_left _ hcT
          k_steps
          exact ⟨_, _, nx, rfl, F15, N15, off15, rfl, ⟨_, paired_snoc f2 ⟨_, rfl⟩, by simp [f3]⟩, by omega⟩
        case done7 =>
          intro C D h14 tk14 nx oC cm ys k hCD hlt F14 N14 off14 hns14 hJ
          (try k_fold)
          obtain ⟨f1, ⟨xs, f2, f3⟩, f4⟩ := hJ
          subst f1
          refine post_none hCD F14 N14 off14 hns14 (fun h15 F15 N15 hne15 => ?_)
          subst hled12
          k_steps
          refine unbrk ?_
          (try k_fold)
          refine' (av_spec w loose mean mg mb) _ _ _ _ _ _ _ _ _ _ _ _ _ _ _ _ _ (by assumption) (by assumption) (by assumption) (N15) (by assumption) (by first | exact rfl | assumption) ?kd4 ?ku4 ?kr4
          case kd4 => first | omega | (dsimp only [ktrTop, Around.deeper, Around.mark, Around.in1]; omega) | exact Nat.le_of_ble_eq_true rfl
          case ku4 => first | omega | (dsimp only [ktrTop, Around.deeper, Around.mark, Around.in1]; omega) | exact Nat.le_of_ble_eq_true rfl
          intro x dx es n' h16 tk16 l16 l17 g16 g17 F16 N16
          k_steps
          refine unbrk ?_
          (try k_fold)
          have z1 := l16 (rl, listOf rvs.toArray nrl) (.tail _ (.tail _ (.tail _ (.tail _ (.head _)))))
          have z2 := hlt (rl, listOf rvs.toArray nrl) (.tail _ (.tail _ (.tail _ (.head _))))
          have hne9 : ∀ p ∈ [(x, instObj 70 dx), (dx, dictOf es n'), (D, listOf ys.toArray k), (bl, listOf [Value.ref ba].toArray 0), (ba, tupOf #[Value.int low tl9, Value.int (low + count - 1) (tk10 + 1 + 1)] 0), (sk, sackO bk (spot' + 2) t10 n)] ++ (L1 + 1, oR3) :: (L1 + 1 + 1, oT8) :: base2, p.1 ≠ rl :=
            List.forall_mem_append.mpr ⟨List.forall_mem_cons.mpr ⟨Nat.ne_of_gt (Nat.lt_trans z1 l17), List.forall_mem_cons.mpr ⟨Nat.ne_of_gt z1, List.forall_mem_cons.mpr ⟨Nat.ne_of_gt z2, List.forall_mem_cons.mpr ⟨Nat.ne_of_gt l12.2.2.1, List.forall_mem_cons.mpr ⟨Nat.ne_of_gt l11.2.1, List.forall_mem_cons.mpr ⟨Nat.ne_of_lt hr3, List.forall_mem_nil _⟩⟩⟩⟩⟩⟩,
              List.forall_mem_cons.mpr ⟨Nat.ne_of_lt hr1, List.forall_mem_cons.mpr ⟨Nat.ne_of_lt hr2, fun p hp => (hne2 p hp).2.1⟩⟩⟩
          have hrvl := paired_length e2
          (with_reducible rename Fr _ _ _ _ => kF2)
          (with_reducible rename News _ _ _ _ => kN2)
          refine append_led kF2 (news_up (pre := [_, _, _, _, _, _]) kN2) hne9 (by omega) (fun h18 F18 N18 => ?_)
          (try k_fold)
          k_steps
          have N28 := news_sub (a := ((sk, sackO bk (spot' + 2) t10 n) :: (rl, listOf (rvs ++ [Value.ref x]).toArray (nrl + 1)) :: (L1 + 1, oR3) :: (L1 + 1 + 1, oT8) :: (((x, instObj 70 dx) :: (dx, dictOf es n') :: (D, listOf ys.toArray k) :: (bl, listOf [Value.ref ba].toArray 0) :: (ba, tupOf #[Value.int low tl9, Value.int (low + count - 1) (tk10 + 1 + 1)] 0) :: tl) ++ rest)) ++ own) N18 (fun p hp => by
            rcases List.mem_append.mp hp with hp | hp
            · rcases List.mem_cons.mp hp with rfl | hp
              · exact .tail _ (.tail _ (.tail _ (.tail _ (.tail _ (.tail _ (.head _))))))
              rcases List.mem_cons.mp hp with rfl | hp
              · exact .head _
              rcases List.mem_cons.mp hp with rfl | hp
              · exact .tail _ (.tail _ (.tail _ (.tail _ (.tail _ (.tail _ (.tail _ (.head _)))))))
              rcases List.mem_cons.mp hp with rfl | hp
              · exact .tail _ (.tail _ (.tail _ (.tail _ (.tail _ (.tail _ (.tail _ (.tail _ (.head _))))))))
              rcases List.mem_append.mp hp with hp | hp
              · rcases List.mem_cons.mp hp with rfl | hp
                · exact .tail _ (.head _)
                rcases List.mem_cons.mp hp with rfl | hp
                · exact .tail _ (.tail _ (.head _))
                rcases List.mem_cons.mp hp with rfl | hp
                · exact .tail _ (.tail _ (.tail _ (.head _)))
                rcases List.mem_cons.mp hp with rfl | hp
                · exact .tail _ (.tail _ (.tail _ (.tail _ (.head _))))
                rcases List.mem_cons.mp hp with rfl | hp
                · exact .tail _ (.tail _ (.tail _ (.tail _ (.tail _ (.head _)))))
                exact .tail _ (.tail _ (.tail _ (.tail _ (.tail _ (.tail _ (.tail _ (.tail _ (.tail _ (hbase ▸ List.mem_append_left _ (List.mem_append_left _ hp))))))))))
              · exact .tail _ (.tail _ (.tail _ (.tail _ (.tail _ (.tail _ (.tail _ (.tail _ (.tail _ (hbase ▸ List.mem_append_left _ (List.mem_append_right _ hp))))))))))
            · exact .tail _ (.tail _ (.tail _ (.tail _ (.tail _ (.tail _ (.tail _ (.tail _ (.tail _ (hbase ▸ List.mem_append_right _ hp))))))))))
          have ownlt : ∀ p ∈ own, p.1 < ba := fun p hp => lt_all l11.2.2.2.2 p (hbase ▸ List.mem_append_right _ hp)
          have ltl : ∀ p ∈ tl, p ∈ base2 := fun p hp => hbase ▸ List.mem_append_left _ (List.mem_append_left _ hp)
          have zD : ∀ y : Addr × Obj, y.1 < ba → y.1 < bl ∧ y.1 < D ∧ y.1 < dx ∧ y.1 < x := fun y hy => by
            have q1 : ba < bl := l12.1
            have q2 := hlt (bl, listOf [Value.ref ba].toArray 0) (.head _)
            have q3 := l16 (D, listOf ys.toArray k) (.head _)
            exact ⟨Nat.lt_trans hy q1, Nat.lt_trans (Nat.lt_trans hy q1) q2, Nat.lt_trans (Nat.lt_trans (Nat.lt_trans hy q1) q2) q3, Nat.lt_trans (Nat.lt_trans (Nat.lt_trans (Nat.lt_trans hy q1) q2) q3) l17⟩
          have hnew : ∀ y : Addr, y < ba → x ≠ y ∧ dx ≠ y ∧ D ≠ y ∧ bl ≠ y ∧ ba ≠ y := fun y hy => by
            obtain ⟨q1, q2, q3, q4⟩ := zD (y, oR3) hy
            exact ⟨Nat.ne_of_gt q4, Nat.ne_of_gt q3, Nat.ne_of_gt q2, Nat.ne_of_gt q1, Nat.ne_of_gt hy⟩
          have hoff28 : ∀ o : Obj, ∀ o2 : Obj, ∀ o3 : Obj, ∀ q ∈ (sk, o) :: (rl, o2) :: (L1 + 1, oR3) :: (L1 + 1 + 1, o3) :: (((x, instObj 70 dx) :: (dx, dictOf es n') :: (D, listOf ys.toArray k) :: (bl, listOf [Value.ref ba].toArray 0) :: (ba, tupOf #[Value.int low tl9, Value.int (low + count - 1) (tk10 + 1 + 1)] 0) :: tl) ++ rest), ∀ p ∈ own, q.1 ≠ p.1 := fun o o2 o3 q hq p hp => by
            have nw := hnew p.1 (ownlt p hp)
            rcases List.mem_cons.mp hq with rfl | hq
            · exact hoff (sk, sackO bk spot' t' n) (.head _) p hp
            rcases List.mem_cons.mp hq with rfl | hq
            · exact hoff (rl, listOf rvs.toArray nrl) (.tail _ (.head _)) p hp
            rcases List.mem_cons.mp hq with rfl | hq
            · exact hoff (L1 + 1, oR3) (.tail _ (.tail _ (.head _))) p hp
            rcases List.mem_cons.mp hq with rfl | hq
            · exact hoff (L1 + 1 + 1, oT') (.tail _ (.tail _ (.tail _ (.head _)))) p hp
            rcases List.mem_append.mp hq with hq | hq
            · rcases List.mem_cons.mp hq with rfl | hq
              · exact nw.1
              rcases List.mem_cons.mp hq with rfl | hq
              · exact nw.2.1
              rcases List.mem_cons.mp hq with rfl | hq
              · exact nw.2.2.1
              rcases List.mem_cons.mp hq with rfl | hq
              · exact nw.2.2.2.1
              rcases List.mem_cons.mp hq with rfl | hq
              · exact nw.2.2.2.2
              exact hoff q (.tail _ (.tail _ (.tail _ (.tail _ (List.mem_append_left _ hq))))) p hp
            · exact hoff q (.tail _ (.tail _ (.tail _ (.tail _ (List.mem_append_right _ hq))))) p hp
          have htl9 : ∀ p ∈ (x, instObj 70 dx) :: (dx, dictOf es n') :: (D, listOf ys.toArray k) :: (bl, listOf [Value.ref ba].toArray 0) :: (ba, tupOf #[Value.int low tl9, Value.int (low + count - 1) (tk10 + 1 + 1)] 0) :: tl, p.1 ≠ sk ∧ p.1 ≠ rl ∧ p.1 ≠ L1 + 1 + 1 := by
            have u1 := hnew sk l11.1
            have u2 := hnew rl l11.2.1
            have u3 := hnew (L1 + 1 + 1) l11.2.2.2.1
            exact List.forall_mem_cons.mpr ⟨⟨u1.1, u2.1, u3.1⟩, List.forall_mem_cons.mpr ⟨⟨u1.2.1, u2.2.1, u3.2.1⟩, List.forall_mem_cons.mpr ⟨⟨u1.2.2.1, u2.2.2.1, u3.2.2.1⟩, List.forall_mem_cons.mpr ⟨⟨u1.2.2.2.1, u2.2.2.2.1, u3.2.2.2.1⟩, List.forall_mem_cons.mpr ⟨⟨u1.2.2.2.2, u2.2.2.2.2, u3.2.2.2.2⟩, e5⟩⟩⟩⟩⟩
          have hxs : RowOk ⟨low, low + count - 1, xs⟩ := ⟨fun e => by
            have e' : xs = [] := e
            rw [e'] at f3
            simp only [List.length_nil] at f3
            omega, by
            show xs.length ≤ 10
            omega⟩
          have hrin : RowIn (((x, instObj 70 dx) :: (dx, dictOf es n') :: (D, listOf ys.toArray k) :: (bl, listOf [Value.ref ba].toArray 0) :: (ba, tupOf #[Value.int low tl9, Value.int (low + count - 1) (tk10 + 1 + 1)] 0) :: tl) ++ rest) (.ref x) ⟨low, low + count - 1, xs⟩ :=
            ⟨x, dx, es, n', bl, 0, ba, 0, tl9, tk10 + 1 + 1, D, k, ys, rfl, .head _, .tail _ (.head _), g16, g17, .tail _ (.tail _ (.tail _ (.head _))), .tail _ (.tail _ (.tail _ (.tail _ (.head _)))), .tail _ (.tail _ (.head _)), f2⟩
          have hrows9 := paired_snoc (paired_mono (fun _ _ y => RowIn.mono y (fun p hp => show p ∈ ((x, instObj 70 dx) :: (dx, dictOf es n') :: (D, listOf ys.toArray k) :: (bl, listOf [Value.ref ba].toArray 0) :: (ba, tupOf #[Value.int low tl9, Value.int (low + count - 1) (tk10 + 1 + 1)] 0) :: tl) ++ rest from .tail _ (.tail _ (.tail _ (.tail _ (.tail _ hp)))))) e2) hrin
          have hsp : spot' + 2 ≤ spot + 1 + 2 * ((i + 1 : Nat) : Int) := by omega
          have hi9 : i + 1 ≤ 3 := by omega
          have hlen9 : (rows ++ [(⟨low, low + count - 1, xs⟩ : Row)]).length = i + 1 := by rw [List.length_append, e1]; rfl
          have hs9 : 0 ≤ spot' + 2 := by omega
          exact ⟨h18, _, _, _, rfl, F18, N28, hoff28 _ _ _, rows ++ [⟨low, low + count - 1, xs⟩], rvs ++ [.ref x], nrl + 1, _, spot' + 2, t10, oT8, _, hlen9, hrows9, rfl, hT8, htl9, hs9, hsp, hi9, List.forall_mem_append.mpr ⟨e9, List.forall_mem_cons.mpr ⟨hxs, List.forall_mem_nil _⟩⟩, rfl⟩
  case done =>
    intro m₁ nx h7 tk7 hJ F7 N7
    (try k_fold)
    obtain ⟨rows, rvs, nrl, tl, spot', t', oT', v0, e1, e2, e3, e4, e5, e6, e7, e8, e9, e10⟩ := hJ
    subst e3
    have hrvl := paired_length e2
    have hpos : 0 < rows.length := by omega
    have hrl3 : rvs.length ≤ 3 := by omega
    obtain ⟨r0, hr0⟩ : ∃ r, rows[0]? = some r := ⟨_, List.getElem?_eq_getElem hpos⟩
    have hin : ∀ p ∈ tl ++ rest, p ∈ (sk, sackO bk spot' t' n) :: (rl, listOf rvs.toArray nrl) :: (L1 + 1, oR3) :: (L1 + 1 + 1, oT') :: (tl ++ rest) := fun p hp => .tail _ (.tail _ (.tail _ (.tail _ hp)))
    have hmr : (rl, listOf rvs.toArray nrl) ∈ (sk, sackO bk spot' t' n) :: (rl, listOf rvs.toArray nrl) :: (L1 + 1, oR3) :: (L1 + 1 + 1, oT') :: (tl ++ rest) := .tail _ (.head _)
    have e2' : Paired (RowIn ((sk, sackO bk spot' t' n) :: (rl, listOf rvs.toArray nrl) :: (L1 + 1, oR3) :: (L1 + 1 + 1, oT') :: (tl ++ rest))) rvs rows := paired_mono (fun _ _ y => RowIn.mono y hin) e2
    generalize hgen : (sk, sackO bk spot' t' n) :: (rl, listOf rvs.toArray nrl) :: (L1 + 1, oR3) :: (L1 + 1 + 1, oT') :: (tl ++ rest) = led7 at *
    have hcR : (L1 + 1, oR3) ∈ led7 := hgen ▸ .tail _ (.tail _ (.head _))
    replace F7 : Fr g1 L1 h7 m₁ := F7
    replace N7 : News g1 L1 h7 led7 := N7
    k_steps
    rename_i qa h8 F8 N8 l8
    refine unbrk ?_
    (try k_fold)
    have e2'' : Paired (RowIn ((qa, tupOf #[Value.int 5 tk7, Value.int (4 + (rvs.length : Int)) (tk7 + 1 + 1 + 1 + 1)] 0) :: led7)) rvs rows := paired_mono (fun _ _ y => RowIn.mono y fun p hp => .tail _ hp) e2'
    refine' (ljoined_spec w loose mean mg mb (led := (qa, tupOf #[Value.int 5 tk7, Value.int (4 + (rvs.length : Int)) (tk7 + 1 + 1 + 1 + 1)] 0) :: led7) (.tail _ hmr) e2'' hr0 (by omega) e9) _ _ _ _ _ _ _ _ _ _ _ _ _ _ _ _ _ B1 F8 X1 N8 T1 XB TB D1 (by first | exact rfl | assumption) ?kdj ?kuj ?krj
    case kdj => first | omega | (dsimp only [ktrTop, Around.deeper, Around.mark, Around.in1]; omega)
    case kuj => first | omega | (dsimp only [ktrTop, Around.deeper, Around.mark, Around.in1]; omega)
    intro v tl9 h9 tk9 g2 TT F9 N9 B9 hres
    have X9 := XB.keeps B9.stays
    have T9 := TB.keeps B9.stays
    have D9 := D1.turn TT
    have hcR9 : (L1 + 1, oR3) ∈ tl9 ++ (qa, tupOf #[Value.int 5 tk7, Value.int (4 + (rvs.length : Int)) (tk7 + 1 + 1 + 1 + 1)] 0) :: led7 := List.mem_append_right _ (.tail _ hcR)
    have hmr9 : (rl, listOf rvs.toArray nrl) ∈ tl9 ++ (qa, tupOf #[Value.int 5 tk7, Value.int (4 + (rvs.length : Int)) (tk7 + 1 + 1 + 1 + 1)] 0) :: led7 := List.mem_append_right _ (.tail _ hmr)
    have hq9 : (qa, tupOf #[Value.int 5 tk7, Value.int (4 + (rvs.length : Int)) (tk7 + 1 + 1 + 1 + 1)] 0) ∈ tl9 ++ (qa, tupOf #[Value.int 5 tk7, Value.int (4 + (rvs.length : Int)) (tk7 + 1 + 1 + 1 + 1)] 0) :: led7 := List.mem_append_right _ (.head _)
    have e29 : Paired (RowIn (tl9 ++ (qa, tupOf #[Value.int 5 tk7, Value.int (4 + (rvs.length : Int)) (tk7 + 1 + 1 + 1 + 1)] 0) :: led7)) rvs rows := paired_mono (fun _ _ y => RowIn.mono y (fun p hp => List.mem_append_right _ (.tail _ hp))) e2'
    clear B1 X1 T1 hin e2' e2'' hmr hcR
    generalize hgen9 : tl9 ++ (qa, tupOf #[Value.int 5 tk7, Value.int (4 + (rvs.length : Int)) (tk7 + 1 + 1 + 1 + 1)] 0) :: led7 = led9 at *
    k_steps
    refine unbrk ?_
    (try k_fold)
    refine lc_none (cl := [(Str.ofString "rows", L1 + 1)]) rfl rfl (by decide) (fun _ => rfl) ?_
    k_steps
    refine unbrk ?_
    (try k_fold)
    obtain ⟨v0, hv0, x0, dx0, es0, n0, bl0, nb0, ba0, na0, t0, u0, il0, ni0, ivs0, rfl, hx0, hdx0, hgb0, hgi0, hbl0, hba0, hil0, hp0⟩ := paired_get' e29 hr0
    (with_reducible rename Fr _ _ _ _ => kF)
    (with_reducible rename News _ _ _ _ => kN)
    refine comp_list (l := rl) (vs := rvs) (ln := nrl) rfl (fun j ys nx => nx = led9 ∧ ys.length = ((rows.take j).filter (fun r => !r.same r0)).length ∧ j ≤ 3) ?hl7 ?hlen7 kF kN ⟨rfl, rfl, by omega⟩ (by decide) rfl ?turn7 ?done7
    case hl7 =>
      intro j ys nx hJ
      rw [hJ.1]
      exact hmr9
    case hlen7 =>
      intro j ys nx hJ
      rw [hJ.2.1]
      have h1 := List.length_filter_le (fun r => !r.same r0) (rows.take j)
      have h2 : (rows.take j).length ≤ rows.length := by rw [List.length_take]; exact Nat.min_le_right _ _
      omega
    case turn7 =>
      intro C D j vj h14 tk14 nx oC cm ys k ow Bk hvj F14 N14 off14 hns14 hJ
      (try k_fold)
      obtain ⟨f1, f2, f3⟩ := hJ
      subst f1
      obtain ⟨r, hr, x1, dx1, es1, n1, bl1, nb1, ba1, na1, t1, u1, il1, ni1, ivs1, rfl, hx1, hdx1, hgb1, hgi1, hbl1, hba1, hil1, hp1⟩ := paired_get e29 hvj
      have hj9 : j < rows.length := by
        rcases Nat.lt_or_ge j rows.length with h | h
        · exact h
        · rw [List.getElem?_eq_none h] at hr; cases hr
      refine bind_name Bk rfl rfl F14 N14 off14 hns14 (fun h15 oC15 F15 N15 off15 hns15 => ?_)
      refine ⟨oC15, _, hns15, ?_⟩
      have hb15 : ∀ p ∈ nx, p ∈ nx ++ blk C oC15 D ys k ow := fun p hp => List.mem_append_left _ hp
      have hcR15 := hb15 _ hcR9
      refine wpAny_tests_one ?_
      k_steps
      refine get_value (X9.keeps F15.keep) (InstAt.of_news N15 (hb15 _ hx1) (hb15 _ hdx1)) (by k_is) (findObj_own (by k_is) (by k_is) rfl hgb1) rfl ?_
      (try k_fold)
      k_steps
      refine unbrk ?_
      (try k_fold)
      refine sub_at N15 (hb15 _ hmr9) (by decide) (by decide) hv0 ?_
      (try k_fold)
      k_steps
      refine get_value (X9.keeps F15.keep) (InstAt.of_news N15 (hb15 _ hx0) (hb15 _ hdx0)) (by k_is) (findObj_own (by k_is) (by k_is) rfl hgb0) rfl ?_
      (try k_fold)
      k_steps
      refine unbrk ?_
      (try k_fold)
      refine bds_ne N15 (hb15 _ hbl1) (hb15 _ hbl0) (hb15 _ hba1) (hb15 _ hba0) (by walk_at "my room") (by walk_at "my room") ?_
      rw [show decide (r.lo = r0.lo ∧ r.hi = r0.hi) = r.same r0 from rfl]
      cases hsm : r.same r0 with
      | false =>
        rw [show (!false) = true from rfl]
        (try k_fold)
        k_steps
        exact ⟨h15, _, nx, rfl, F15, N15, off15, rfl, by rw [take_succ_filter _ _ _ _ hr, if_pos (by rw [hsm]; rfl)]; simp [f2], by omega⟩
      | true =>
        rw [show (!true) = false from rfl]
        (try k_fold)
        k_steps
        exact ⟨h15, _, nx, rfl, F15, N15, off15, rfl, by rw [take_succ_filter _ _ _ _ hr, if_neg (by rw [hsm]; exact Bool.false_ne_true)]; simp [f2], by omega⟩
    case done7 =>
      intro C D h14 tk14 nx oC cm ys k hCD hlt F14 N14 off14 hns14 hJ
      (try k_fold)
      obtain ⟨f1, f2, f3⟩ := hJ
      subst f1
      refine post_none hCD F14 N14 off14 hns14 (fun h15 F15 N15 hne15 => ?_)
      rw [List.take_of_length_le (Nat.le_of_eq hrvl.symm)] at f2
      k_steps
      refine unbrk ?_
      (try k_fold)
      rename_i q16 h16 F16 N16 l16
      refine ne_nil N16 (.tail _ (.head _)) (.head _) (by walk_at "my room") ?_
      rcases hres with ⟨⟨rb, hrb, hrs⟩, tw, hv⟩ | ⟨hall, hj⟩
      · have hys : ys ≠ [] := fun e => by
          have hm : rb ∈ rows.filter (fun r => !r.same r0) := List.mem_filter.mpr ⟨hrb, by rw [hrs]; rfl⟩
          have := List.length_pos_of_mem hm
          rw [← f2, e] at this
          exact absurd this (by decide)
        rw [decide_eq_true hys]
        subst hv
        (try k_fold)
        k_steps
        rw [beq_self_eq_true]
        dsimp only
        k_steps
        (with_reducible rename Fr _ _ _ _ => kF9)
        (with_reducible rename News _ _ _ _ => kN9)
        exact ⟨g2, L1, _, _, TT, kF9, kN9, fun h₀' TT' FF NN BB => hret _ _ h₀' TT' FF⟩
      · have hys : ys = [] := List.length_eq_zero_iff.mp (by
          rw [f2]
          exact List.length_eq_zero_iff.mpr (List.filter_eq_nil_iff.mpr fun r hr => by rw [hall r hr]; exact Bool.false_ne_true))
        rw [show decide (ys ≠ []) = false from decide_eq_false fun h => h hys]
        (try k_fold)
        k_steps
        refine unbrk ?_
        (try k_fold)
        refine lc_use2 (cl := []) rfl rfl rfl (by decide) (fun _ => rfl) ?_
        k_steps
        refine unbrk ?_
        (try k_fold)
        have hm16 : ∀ p ∈ nx, p ∈ (q16, listOf ([] : List Value).toArray 0) :: (D, listOf ys.toArray k) :: nx := fun p hp => .tail _ (.tail _ hp)
        generalize hgen16 : (q16, listOf ([] : List Value).toArray 0) :: (D, listOf ys.toArray k) :: nx = led16 at *
        (with_reducible rename Fr _ _ _ _ => kF9)
        (with_reducible rename News _ _ _ _ => kN9)
        refine comp2_list (l := rl) (vs := rvs) (ln := nrl) rfl (fun j ts nx => nx = led16 ∧ Paired IntV ts ((rows.take j).flatMap Row.its) ∧ ts.length ≤ 10 * j ∧ j ≤ 3) ?hl8 kF9 kN9 ⟨rfl, .nil, by simp, by omega⟩ (by decide) rfl ?turn8 ?done8
        case hl8 =>
          intro j ts nx hJ
          rw [hJ.1]
          exact hm16 _ hmr9
        case turn8 =>
          intro C3 D3 j v3 h19 tk19 nx3 oC3 cm3 ts k3 ow3 Bk3 hv3 F19 N19 off19 hns19 hJ3
          (try k_fold)
          obtain ⟨e17, e18, e19, e110⟩ := hJ3
          subst e17
          obtain ⟨r, hr, x1, dx1, es1, n1, bl1, nb1, ba1, na1, t1, u1, il1, ni1, ivs1, rfl, hx1, hdx1, hgb1, hgi1, hbl1, hba1, hil1, hp1⟩ := paired_get e29 hv3
          have hj9 : j < rows.length := by
            rcases Nat.lt_or_ge j rows.length with h | h
            · exact h
            · rw [List.getElem?_eq_none h] at hr; cases hr
          have hrok := e9 r (List.mem_of_getElem? hr)
          have hil9 := paired_length hp1
          have hrok2 := hrok.2
          refine bind_name Bk3 rfl rfl F19 N19 off19 hns19 (fun h20 oC20 F20 N20 off20 hns20 => ?_)
          refine emit2_wp (l1 := il1) (vs1 := ivs1) (ln1 := ni1) rfl Bk3 (fun jj cm ts nx => nx = nx3 ∧ Paired IntV ts ((rows.take j).flatMap Row.its ++ r.its.take jj) ∧ ts.length ≤ 10 * j + jj ∧ jj ≤ 10) ?hl9 ?hlen9 ?hev9 (fun _ => rfl) F20 N20 off20 hns20 ⟨rfl, by simpa using e18, by omega, by omega⟩ ?turn9 ?fin9
          case hl9 =>
            intro jj cm ts nx hJ
            rw [hJ.1]
            exact hm16 _ hil1
          case hlen9 =>
            intro jj cm ts nx hJ
            have z1 := hJ.2.2.1
            have z2 := hJ.2.2.2
            omega
          case hev9 =>
            intro Q hQ
            k_steps
            refine get_value (X9.keeps F20.keep) (InstAt.of_news N20 (List.mem_append_left _ (hm16 _ hx1)) (List.mem_append_left _ (hm16 _ hdx1))) (by k_is) (findObj_own (by k_is) (by k_is) rfl hgi1) rfl ?_
            exact hQ _
          case turn9 =>
            intro jj v4 h21 tk21 nx4 oC4 cm4 ts k4 ow4 Bk4 hv4 F21 N21 off21 hns21 hJ4
            (try k_fold)
            obtain ⟨r1, r2, r3, r4⟩ := hJ4
            subst r1
            obtain ⟨y, hy, ty, rfl⟩ := paired_get hp1 hv4
            have hjj : jj < r.its.length := by
              rcases Nat.lt_or_ge jj r.its.length with h | h
              · exact h
              · rw [List.getElem?_eq_none h] at hy; cases hy
            refine bind_name Bk4 rfl rfl F21 N21 off21 hns21 (fun h22 oC22 F22 N22 off22 hns22 => ?_)
            refine ⟨oC22, _, hns22, ?_⟩
            refine wpAny_tests_nil ?_
            rw [if_pos rfl]
            k_steps
            exact ⟨h22, _, nx4, rfl, F22, N22, off22, rfl, by
              rw [List.take_succ, hy, ← List.append_assoc]
              exact paired_snoc r2 ⟨_, rfl⟩, by simp; omega, by omega⟩
          case fin9 =>
            intro h21 tk21 nx4 oC4 cm4 ts k4 F21 N21 off21 hns21 hJ4
            (try k_fold)
            obtain ⟨r1, r2, r3, r4⟩ := hJ4
            subst r1
            exact ⟨h21, _, nx4, oC4, cm4, ts, k4, rfl, F21, N21, off21, hns21, rfl, by
              rw [List.take_of_length_le (Nat.le_of_eq hil9.symm)] at r2
              rw [List.take_succ, hr, List.flatMap_append]
              simpa using r2, by omega, by omega⟩
        case done8 =>
          intro C3 D3 h19 tk19 nx3 oC3 cm3 ts k3 hCD3 hlt3 F19 N19 off19 hns19 hJ3
          (try k_fold)
          obtain ⟨e17, e18, e19, e110⟩ := hJ3
          subst e17
          refine post_use rfl rfl hCD3 F19 N19 off19 hns19 (fun h20 tk20 F20 N20 hne20 => ?_)
          rw [List.take_of_length_le (Nat.le_of_eq hrvl.symm)] at e18
          obtain ⟨xj, dxj, esj, nj, blj, nbj, baj, naj, tj, uj, ilj, nij, ivsj, rfl, hxj, hdxj, hgbj, hgij, hblj, hbaj, hilj, hpj⟩ := hj
          k_steps
          have hm20 : ∀ p ∈ nx, p ∈ (D3, listOf ts.toArray k3) :: nx3 := fun p hp => .tail _ (hm16 p hp)
          (with_reducible rename News _ _ _ _ => kN9)
          refine get_value (X9.keeps F20.keep) (InstAt.of_news kN9 (hm20 _ hxj) (hm20 _ hdxj)) (by k_is) (findObj_own (by k_is) (by k_is) rfl hgij) rfl ?_
          (try k_fold)
          k_steps
          refine unbrk ?_
          (try k_fold)
          refine ints_eq kN9 (hm20 _ hilj) (.head _) hpj e18 (by walk_at "my room") ?_
          rw [decide_eq_true rfl]
          (try k_fold)
          have hmr20 := hm20 _ hmr9
          have hcR20 := hm20 _ hcR9
          k_steps
          refine get_value (X9.keeps F20.keep) (InstAt.of_news kN9 (hm20 _ hxj) (hm20 _ hdxj)) (by k_is) (findObj_own (by k_is) (by k_is) rfl hgbj) rfl ?_
          (try k_fold)
          k_steps
          rename_i qt h22 F22 N22 l22
          have hm22 : ∀ p ∈ nx, p ∈ (qt, tupOf #[Value.int 5 (tk20 + 1 + 1), Value.int (4 + (rvs.length : Int)) (tk20 + 1 + 1 + 1 + 1 + 1 + 1)] 0) :: (D3, listOf ts.toArray k3) :: nx3 := fun p hp => .tail _ (hm20 p hp)
          refine unbrk ?_
          (try k_fold)
          refine sub_at N22 (hm22 _ hmr9) (by decide) (by decide) hv0 ?_
          (try k_fold)
          k_steps
          refine get_value (X9.keeps F22.keep) (InstAt.of_news N22 (hm22 _ hx0) (hm22 _ hdx0)) (by k_is) (findObj_own (by k_is) (by k_is) rfl hgb0) rfl ?_
          (try k_fold)
          k_steps
          refine unbrk ?_
          (try k_fold)
          refine sub_at N22 (hm22 _ hbl0) (by decide) (by decide) rfl ?_
          (try k_fold)
          k_steps
          rename_i ql h23 F23 N23 l23
          refine unbrk ?_
          (try k_fold)
          refine bds2_eq N23 (.tail _ (hm22 _ hblj)) (.head _) (.tail _ (hm22 _ hq9)) (.tail _ (.head _)) (.tail _ (hm22 _ hbaj)) (.tail _ (hm22 _ hba0)) (by walk_at "my room") (by walk_at "my room") ?_
          rw [decide_eq_true (⟨rfl, rfl⟩ : (5 : Int) = 5 ∧ (4 + (rvs.length : Int)) = 4 + (rvs.length : Int)), decide_eq_true (⟨rfl, rfl⟩ : r0.lo = r0.lo ∧ r0.hi = r0.hi)]
          rw [Bool.and_self]
          (try k_fold)
          k_steps
          exact ⟨g2, L1, _, _, TT, F23, N23, fun h₀' TT' FF NN BB => hret _ _ h₀' TT' FF⟩
end
section
set_option maxHeartbeats 8000000 in
theorem lim0_spec (w : World) (loose : List Str) (mean : ExcName → Option Value) (mg mb : Str → Option Value) {led : Led} {t8 : Tok} :
    ∀ (dp un : Nat) (gd : Option (List Code)) (cn : Str) (cs : Scope) (a : Addr) (ccd : Value) (cl : List (Str × Addr)) (outer : List Env) (A₀ : Around) (base h₀ : Heap) (L : Addr) (m : Str → Option Value) (s : Shared) (Q E : Value → Shared → Prop),
    Below A₀ base outer h₀ → Fr h₀ L s.heap m → (Mine.hd.heap_39 w.params).In h₀ → News h₀ L s.heap led → Top Mine.view loose mean mg mb h₀ → cs.kind = .function → dp + 3 < recursionLimit → un + 100 * 3 < cLine →
    (∀ x tl' h' tk', LimIn (tl' ++ led) x 10000 → Fr h₀ L h' m → News h₀ L h' (tl' ++ led) → Q (.ref x) { s with heap := h', toks := tk' }) →
    wpAny (model PySem.Challenge.rw_pb0005_01.row.prog w) (ktrTop dp un gd cn cs L a ccd cl outer) (call (.ref 155) []) Q E s := by
  k_fill
  intro dp un gd cn cs a ccd cl outer A₀ base h₀ L m s Q E B F X N T hk hd hu hret
  refine call_cls (by assumption) (by assumption) (by assumption) (by k_is) (by k_is) (by k_is) ?_
  intro x dx h13 F13 N13 l13 l14
  k_dflt (refine' code_def ?k1 ?k2 ?k3 ?k4 ?k5 ?kA ?kF ?kK ?k6 ?k7 ?k8 ?k9 ?kB ?_ ?c2 ?c3 ?c4 ?c5; (case kA => exact rfl); (case kF => exact rfl); (case kK => first | exact rfl | assumption); (case k1 => k_asm); (case k2 => k_asm); (case k3 => k_asm); (case k4 => k_asm); (case k5 => k_asm); (case k6 => k_is); (case k7 => k_is); (case k8 => ktr_room); (case k9 => exact binds_K (by k_in) rfl (by k_is) rfl rfl rfl); (case c5 => decide); (case kB => exact locs rfl); (case c2 => exact rfl); (case c3 => exact rfl); (case c4 => exact rfl); k_whole; intro g1 L1 h1 FG1 F1 N1 B1 X1 T1; (try dsimp only); (try k_lift B1); (try k_fold))
  refine foldA ?_
  intro fA
  try (have fR : Around.units fA < cLine := by (simp only [fA, Around.deeper]; omega))
  try (have fR1 : Around.units (Around.in1 fA) < cLine := by (simp only [fA, Around.deeper, Around.in1]; omega))
  refine foldE ?_
  intro fE
  (try k_fold)
  have hU : ∀ p ∈ led, p.1 ≠ dx := fun p hp => Nat.ne_of_lt (l13 p hp)
  k_steps
  refine set_dict F1 X1 N1 (InstAt.of_news N1 (.head _) (.tail _ (.head _))) rfl (by k_is) (by k_is) (by k_is) (by k_is) rfl rfl (.tail (Nat.ne_of_gt l14) (.head hU)) (Nat.le_of_ble_eq_true rfl) (fun h20 F20 N20 => ?_)
  (try k_fold)
  k_steps
  refine set_dict F20 X1 N20 (InstAt.of_news N20 (.head _) (.tail _ (.head _))) rfl (by k_is) (by k_is) (by k_is) (by k_is) rfl rfl (.tail (Nat.ne_of_gt l14) (.head hU)) (Nat.le_of_ble_eq_true rfl) (fun h21 F21 N21 => ?_)
  (try k_fold)
  k_steps
  refine set_dict F21 X1 N21 (InstAt.of_news N21 (.head _) (.tail _ (.head _))) rfl (by k_is) (by k_is) (by k_is) (by k_is) rfl rfl (.tail (Nat.ne_of_gt l14) (.head hU)) (Nat.le_of_ble_eq_true rfl) (fun h22 F22 N22 => ?_)
  (try k_fold)
  k_steps
  refine set_dict F22 X1 N22 (InstAt.of_news N22 (.head _) (.tail _ (.head _))) rfl (by k_is) (by k_is) (by k_is) (by k_is) rfl rfl (.tail (Nat.ne_of_gt l14) (.head hU)) (Nat.le_of_ble_eq_true rfl) (fun h23 F23 N23 => ?_)
  (try k_fold)
  k_steps
  refine set_dict F23 X1 N23 (InstAt.of_news N23 (.head _) (.tail _ (.head _))) rfl (by k_is) (by k_is) (by k_is) (by k_is) rfl rfl (.tail (Nat.ne_of_gt l14) (.head hU)) (Nat.le_of_ble_eq_true rfl) (fun h24 F24 N24 => ?_)
  (try k_fold)
  k_steps
  refine set_dict F24 X1 N24 (InstAt.of_news N24 (.head _) (.tail _ (.head _))) rfl (by k_is) (by k_is) (by k_is) (by k_is) rfl rfl (.tail (Nat.ne_of_gt l14) (.head hU)) (Nat.le_of_ble_eq_true rfl) (fun h25 F25 N25 => ?_)
  (try k_fold)
  k_steps
  exact hret x [(x, instObj 155 dx), (dx, _)] _ _ ⟨dx, _, _, _, .head _, .tail _ (.head _), rfl⟩ (by assumption) (by assumption)
set_option maxHeartbeats 8000000 in
theorem lim8_spec (w : World) (loose : List Str) (mean : ExcName → Option Value) (mg mb : Str → Option Value) {led : Led} {t8 : Tok} :
    ∀ (dp un : Nat) (gd : Option (List Code)) (cn : Str) (cs : Scope) (a : Addr) (ccd : Value) (cl : List (Str × Addr)) (outer : List Env) (A₀ : Around) (base h₀ : Heap) (L : Addr) (m : Str → Option Value) (s : Shared) (Q E : Value → Shared → Prop),
    Below A₀ base outer h₀ → Fr h₀ L s.heap m → (Mine.hd.heap_39 w.params).In h₀ → News h₀ L s.heap led → Top Mine.view loose mean mg mb h₀ → cs.kind = .function → dp + 3 < recursionLimit → un + 100 * 3 < cLine →
    (∀ x tl' h' tk', LimIn (tl' ++ led) x 8 → Fr h₀ L h' m → News h₀ L h' (tl' ++ led) → Q (.ref x) { s with heap := h', toks := tk' }) →
    wpAny (model PySem.Challenge.rw_pb0005_01.row.prog w) (ktrTop dp un gd cn cs L a ccd cl outer) (call (.ref 155) [] [(Str.ofString "members", .int 8 t8)]) Q E s := by
  k_fill
  intro dp un gd cn cs a ccd cl outer A₀ base h₀ L m s Q E B F X N T hk hd hu hret
  refine call_cls (by assumption) (by assumption) (by assumption) (by k_is) (by k_is) (by k_is) ?_
  intro x dx h13 F13 N13 l13 l14
  k_dflt (refine' code_def ?k1 ?k2 ?k3 ?k4 ?k5 ?kA ?kF ?kK ?k6 ?k7 ?k8 ?k9 ?kB ?_ ?c2 ?c3 ?c4 ?c5; (case kA => exact rfl); (case kF => exact rfl); (case kK => first | exact rfl | assumption); (case k1 => k_asm); (case k2 => k_asm); (case k3 => k_asm); (case k4 => k_asm); (case k5 => k_asm); (case k6 => k_is); (case k7 => k_is); (case k8 => ktr_room); (case k9 => exact binds_K (by k_in) rfl (by k_is) rfl rfl rfl); (case c5 => decide); (case kB => exact locs rfl); (case c2 => exact rfl); (case c3 => exact rfl); (case c4 => exact rfl); k_whole; intro g1 L1 h1 FG1 F1 N1 B1 X1 T1; (try dsimp only); (try k_lift B1); (try k_fold))
  refine foldA ?_
  intro fA
  try (have fR : Around.units fA < cLine := by (simp only [fA, Around.deeper]; omega))
  try (have fR1 : Around.units (Around.in1 fA) < cLine := by (simp only [fA, Around.deeper, Around.in1]; omega))
  refine foldE ?_
  intro fE
  (try k_fold)
  have hU : ∀ p ∈ led, p.1 ≠ dx := fun p hp => Nat.ne_of_lt (l13 p hp)
  k_steps
  refine set_dict F1 X1 N1 (InstAt.of_news N1 (.head _) (.tail _ (.head _))) rfl (by k_is) (by k_is) (by k_is) (by k_is) rfl rfl (.tail (Nat.ne_of_gt l14) (.head hU)) (Nat.le_of_ble_eq_true rfl) (fun h20 F20 N20 => ?_)
  (try k_fold)
  k_steps
  refine set_dict F20 X1 N20 (InstAt.of_news N20 (.head _) (.tail _ (.head _))) rfl (by k_is) (by k_is) (by k_is) (by k_is) rfl rfl (.tail (Nat.ne_of_gt l14) (.head hU)) (Nat.le_of_ble_eq_true rfl) (fun h21 F21 N21 => ?_)
  (try k_fold)
  k_steps
  refine set_dict F21 X1 N21 (InstAt.of_news N21 (.head _) (.tail _ (.head _))) rfl (by k_is) (by k_is) (by k_is) (by k_is) rfl rfl (.tail (Nat.ne_of_gt l14) (.head hU)) (Nat.le_of_ble_eq_true rfl) (fun h22 F22 N22 => ?_)
  (try k_fold)
  k_steps
  refine set_dict F22 X1 N22 (InstAt.of_news N22 (.head _) (.tail _ (.head _))) rfl (by k_is) (by k_is) (by k_is) (by k_is) rfl rfl (.tail (Nat.ne_of_gt l14) (.head hU)) (Nat.le_of_ble_eq_true rfl) (fun h23 F23 N23 => ?_)
  (try k_fold)
  k_steps
  refine set_dict F23 X1 N23 (InstAt.of_news N23 (.head _) (.tail _ (.head _))) rfl (by k_is) (by k_is) (by k_is) (by k_is) rfl rfl (.tail (Nat.ne_of_gt l14) (.head hU)) (Nat.le_of_ble_eq_true rfl) (fun h24 F24 N24 => ?_)
  (try k_fold)
  k_steps
  refine set_dict F24 X1 N24 (InstAt.of_news N24 (.head _) (.tail _ (.head _))) rfl (by k_is) (by k_is) (by k_is) (by k_is) rfl rfl (.tail (Nat.ne_of_gt l14) (.head hU)) (Nat.le_of_ble_eq_true rfl) (fun h25 F25 N25 => ?_)
  (try k_fold)
  k_steps
  exact hret x [(x, instObj 155 dx), (dx, _)] _ _ ⟨dx, _, _, _, .head _, .tail _ (.head _), rfl⟩ (by assumption) (by assumption)
end
section
def claimP (lo hi : Int) (fs : List Int) (p : Int × Int) : Option (List Int) := claim1 lo hi p.1 fs p.2
def takersOf (cl : List (Int × Int)) (i : Int) : List Int := (cl.filter fun p => decide (p.2 = i)).map (·.1)
theorem optFold_none_mem {α β : Type} {f : β → α → Option β} {a : α} (hf : ∀ b, f b a = none) : ∀ {l : List α} {b : β}, a ∈ l → optFold f b l = none
  | [], _, h => by cases h
  | x :: l, b, h => by
    show (f b x).bind _ = none
    cases hx : f b x with
    | none => rfl
    | some b' =>
      rcases List.mem_cons.mp h with rfl | h
      · rw [hf] at hx; cases hx
      · exact optFold_none_mem hf h
theorem optFold_map {α β γ : Type} {f : β → α → Option β} {g : γ → α} : ∀ {l : List γ} {b : β}, optFold f b (l.map g) = optFold (fun b c => f b (g c)) b l
  | [], _ => rfl
  | x :: l, b => by
    show (f b (g x)).bind _ = (f b (g x)).bind _
    congr 1
    funext b'
    exact optFold_map
theorem optFold_flat {α β γ : Type} {f : β → α → Option β} {g : γ → List α} : ∀ {l : List γ} {b : β}, optFold f b (l.flatMap g) = optFold (fun b c => optFold f b (g c)) b l
  | [], _ => rfl
  | x :: l, b => by
    rw [List.flatMap_cons, optFold_app]
    show _ = (optFold f b (g x)).bind _
    congr 1
    funext b'
    exact optFold_flat
theorem optFold_congr {α β : Type} {f f' : β → α → Option β} : ∀ {l : List α} {b : β}, (∀ a ∈ l, ∀ b, f b a = f' b a) → optFold f b l = optFold f' b l
  | [], _, _ => rfl
  | x :: l, b, h => by
    show (f b x).bind _ = (f' b x).bind _
    rw [h x (.head _)]
    congr 1
    funext b'
    exact optFold_congr fun a ha => h a (.tail _ ha)
theorem rng_mem {a b i : Int} : i ∈ rng a b ↔ a ≤ i ∧ i ≤ b := by
  unfold rng
  rw [List.mem_map]
  constructor
  · rintro ⟨k, hk, rfl⟩
    have := List.mem_range.mp hk
    omega
  · rintro ⟨h1, h2⟩
    exact ⟨(i - a).toNat, List.mem_range.mpr (by omega), by omega⟩
theorem claimC_eq {lo hi place : Int} {fs : List Int} {c : Int × Int} : claimC lo hi place fs c = optFold (claim1 lo hi place) fs (rng c.1 c.2) := by
  unfold claimC
  split
  · rename_i h
    symm
    rcases h.2 with h1 | h1
    · exact optFold_none_mem (a := c.1) (fun b => claim1_none fun z => absurd z.1 (by omega)) (rng_mem.mpr ⟨Int.le_refl _, h.1⟩)
    · exact optFold_none_mem (a := c.2) (fun b => claim1_none fun z => absurd z.2.1 (by omega)) (rng_mem.mpr ⟨h.1, Int.le_refl _⟩)
  · rfl
def clOf (place : Int) (cs : List (Int × Int)) : List (Int × Int) := cs.flatMap fun c => (rng c.1 c.2).map fun i => (place, i)
theorem claimCs_eq {lo hi place : Int} {fs : List Int} {cs : List (Int × Int)} : claimCs lo hi place fs cs = optFold (claimP lo hi) fs (clOf place cs) := by
  unfold claimCs clOf
  rw [optFold_flat]
  refine optFold_congr fun c _ b => ?_
  rw [claimC_eq, optFold_map]
  rfl

structure Claimed (lo hi : Int) (cl : List (Int × Int)) (fs : List Int) : Prop where
  len : fs.length = (hi + 1 - lo).toNat
  at_ : ∀ j : Nat, j < (hi + 1 - lo).toNat → fs[j]? = some (match takersOf cl (lo + (j : Int)) with | [] => -1 | a :: _ => a)
  one : ∀ i, (takersOf cl i).length ≤ 1
  inb : ∀ p ∈ cl, lo ≤ p.2 ∧ p.2 ≤ hi
def BadCl (lo hi : Int) (cl : List (Int × Int)) : Prop := (∃ p ∈ cl, ¬ (lo ≤ p.2 ∧ p.2 ≤ hi)) ∨ ∃ i, lo ≤ i ∧ i ≤ hi ∧ 1 < (takersOf cl i).length
theorem takers_app (a b : List (Int × Int)) (i : Int) : takersOf (a ++ b) i = takersOf a i ++ takersOf b i := by
  unfold takersOf
  rw [List.filter_append, List.map_append]
theorem takers_one (p : Int × Int) (i : Int) : takersOf [p] i = if p.2 = i then [p.1] else [] := by
  unfold takersOf
  by_cases h : p.2 = i
  · rw [if_pos h, List.filter_cons_of_pos (by simpa using h)]; rfl
  · rw [if_neg h, List.filter_cons_of_neg (by simpa using h)]; rfl
theorem BadCl.more {lo hi : Int} {a : List (Int × Int)} (b : List (Int × Int)) (h : BadCl lo hi a) : BadCl lo hi (a ++ b) := by
  rcases h with ⟨p, hp, h⟩ | ⟨i, h1, h2, h3⟩
  · exact .inl ⟨p, List.mem_append_left _ hp, h⟩
  · refine .inr ⟨i, h1, h2, ?_⟩
    rw [takers_app, List.length_append]
    omega
theorem takers_nonneg {cl : List (Int × Int)} (h : ∀ p ∈ cl, 0 ≤ p.1) {i a : Int} (ha : a ∈ takersOf cl i) : 0 ≤ a := by
  unfold takersOf at ha
  obtain ⟨p, hp, rfl⟩ := List.mem_map.mp ha
  exact h p (List.mem_filter.mp hp).1
theorem claim_step {lo hi : Int} {cl : List (Int × Int)} {fs : List Int} {p : Int × Int} (hnn : ∀ p ∈ cl, 0 ≤ p.1) (h : Claimed lo hi cl fs) :
    (∃ fs', claimP lo hi fs p = some fs' ∧ Claimed lo hi (cl ++ [p]) fs') ∨ (claimP lo hi fs p = none ∧ BadCl lo hi (cl ++ [p])) := by
  by_cases hb : lo ≤ p.2 ∧ p.2 ≤ hi
  · have hj : (p.2 - lo).toNat < (hi + 1 - lo).toNat := by omega
    have hjl : lo + ((p.2 - lo).toNat : Int) = p.2 := by omega
    have hat := h.at_ _ hj
    rw [hjl] at hat
    cases ht : takersOf cl p.2 with
    | nil =>
      rw [ht] at hat
      refine .inl ⟨_, claim1_some hb.1 hb.2 hat (by decide), by rw [List.length_set]; exact h.len, fun j hj' => ?_, fun i => ?_, fun q hq => ?_⟩
      · rw [takers_app, takers_one, List.getElem?_set]
        by_cases e : (p.2 - lo).toNat = j
        · subst e
          rw [if_pos rfl, hjl, ht, if_pos rfl, if_pos (by rw [h.len]; exact hj)]
          rfl
        · rw [if_neg e, if_neg (by omega), List.append_nil]
          exact h.at_ j hj'
      · rw [takers_app, takers_one, List.length_append]
        by_cases e : p.2 = i
        · subst e
          rw [ht, if_pos rfl]
          exact Nat.le_refl _
        · rw [if_neg e]
          exact h.one i
      · rcases List.mem_append.mp hq with hq | hq
        · exact h.inb q hq
        · rw [List.mem_singleton.mp hq]; exact hb
    | cons a r =>
      rw [ht] at hat
      have ha : 0 ≤ a := takers_nonneg hnn (ht ▸ List.mem_cons_self ..)
      refine .inr ⟨claim1_none fun z => ?_, .inr ⟨p.2, hb.1, hb.2, ?_⟩⟩
      · obtain ⟨_, _, x, hx, hx0⟩ := z
        rw [hat] at hx
        have e : a = x := Option.some.inj hx
        omega
      · rw [takers_app, takers_one, if_pos rfl, ht]
        simp
  · exact .inr ⟨claim1_none fun z => hb ⟨z.1, z.2.1⟩, .inl ⟨p, List.mem_append_right _ (.head _), hb⟩⟩
theorem claims_all {lo hi : Int} : ∀ (r : List (Int × Int)) {cl : List (Int × Int)} {fs : List Int}, (∀ p ∈ cl, 0 ≤ p.1) → (∀ p ∈ r, 0 ≤ p.1) → Claimed lo hi cl fs →
    (∃ fs', optFold (claimP lo hi) fs r = some fs' ∧ Claimed lo hi (cl ++ r) fs') ∨ (optFold (claimP lo hi) fs r = none ∧ BadCl lo hi (cl ++ r))
  | [], cl, fs, _, _, h => .inl ⟨fs, rfl, by rw [List.append_nil]; exact h⟩
  | p :: r, cl, fs, h1, h2, h => by
    have e : cl ++ p :: r = (cl ++ [p]) ++ r := by simp
    rcases claim_step (p := p) h1 h with ⟨fs', e1, h'⟩ | ⟨e1, h'⟩
    · have hn : ∀ q ∈ cl ++ [p], 0 ≤ q.1 := fun q hq => by
        rcases List.mem_append.mp hq with hq | hq
        · exact h1 q hq
        · rw [List.mem_singleton.mp hq]; exact h2 p (.head _)
      rw [e]
      show (∃ fs', (claimP lo hi fs p).bind _ = some fs' ∧ _) ∨ ((claimP lo hi fs p).bind _ = none ∧ _)
      rw [e1]
      exact claims_all r hn (fun q hq => h2 q (.tail _ hq)) h'
    · refine .inr ⟨?_, by rw [e]; exact h'.more r⟩
      show (claimP lo hi fs p).bind _ = none
      rw [e1]
      rfl
theorem claimed_nil {lo hi : Int} : Claimed lo hi [] (List.replicate (hi + 1 - lo).toNat (-1)) :=
  ⟨List.length_replicate, fun j hj => by rw [List.getElem?_replicate, if_pos hj]; rfl, fun _ => Nat.zero_le _, fun _ h => by cases h⟩
end
section
theorem fill_upto {rst : Int} {fs : List Int} : ∀ i, i ≤ fs.length → optFold (fillStep rst) fs (List.range i) = if rst < 0 ∧ (∃ x ∈ fs.take i, x < 0) then none else some ((fs.take i).map (fun x => if x < 0 then rst else x) ++ fs.drop i)
  | 0, _ => by
    rw [if_neg (by
      rintro ⟨_, x, hx, _⟩
      simp at hx)]
    simp [optFold]
  | i + 1, hi => by
    have ih := fill_upto (rst := rst) (fs := fs) i (by omega)
    have hlt : i < fs.length := by omega
    have hget : fs[i]? = some fs[i] := List.getElem?_eq_getElem hlt
    rw [List.range_succ, optFold_app, ih]
    by_cases c : rst < 0 ∧ ∃ x ∈ fs.take i, x < 0
    · rw [if_pos c, if_pos ⟨c.1, by
        obtain ⟨x, hx, h0⟩ := c.2
        exact ⟨x, by rw [List.take_succ]; exact List.mem_append_left _ hx, h0⟩⟩]
      rfl
    · rw [if_neg c, Option.bind_some]
      have hl : ((fs.take i).map (fun x => if x < 0 then rst else x)).length = i := by rw [List.length_map, List.length_take]; omega
      have hg : ((fs.take i).map (fun x => if x < 0 then rst else x) ++ fs.drop i)[i]? = some fs[i] := by
        rw [List.getElem?_append_right (by omega), hl, Nat.sub_self, List.getElem?_drop]
        exact hget
      have hstep : fillStep rst ((fs.take i).map (fun x => if x < 0 then rst else x) ++ fs.drop i) i = (if fs[i] < 0 then (if rst < 0 then none else some (((fs.take i).map (fun x => if x < 0 then rst else x) ++ fs.drop i).set i rst)) else some ((fs.take i).map (fun x => if x < 0 then rst else x) ++ fs.drop i)) := by
        unfold fillStep
        rw [hg]
      have hone : optFold (fillStep rst) ((fs.take i).map (fun x => if x < 0 then rst else x) ++ fs.drop i) [i] = fillStep rst ((fs.take i).map (fun x => if x < 0 then rst else x) ++ fs.drop i) i := by
        show (fillStep rst _ i).bind _ = _
        cases fillStep rst ((fs.take i).map (fun x => if x < 0 then rst else x) ++ fs.drop i) i <;> rfl
      have htk : fs.take (i + 1) = fs.take i ++ [fs[i]] := by rw [List.take_succ, hget]; rfl
      have hdr : fs.drop i = fs[i] :: fs.drop (i + 1) := List.drop_eq_getElem_cons hlt
      rw [hone, hstep, htk]
      by_cases c0 : fs[i] < 0
      · rw [if_pos c0]
        by_cases cr : rst < 0
        · rw [if_pos cr, if_pos ⟨cr, fs[i], List.mem_append_right _ (.head _), c0⟩]
        · rw [if_neg cr, if_neg (fun z => cr z.1), hdr]
          congr 1
          rw [List.set_append_right _ _ (by omega), hl, Nat.sub_self, List.set_cons_zero, List.map_append, List.map_cons, List.map_nil, if_pos c0, List.append_assoc]
          rfl
      · rw [if_neg c0, if_neg (by
          rintro ⟨hr, x, hx, hx0⟩
          rcases List.mem_append.mp hx with hx | hx
          · exact c ⟨hr, x, hx, hx0⟩
          · rw [List.mem_singleton.mp hx] at hx0; exact c0 hx0), List.map_append, List.map_cons, List.map_nil, if_neg c0, List.append_assoc]
        congr 2
theorem fill_eq {rst : Int} {fs : List Int} : optFold (fillStep rst) fs (List.range fs.length) = if rst < 0 ∧ (∃ x ∈ fs, x < 0) then none else some (fs.map fun x => if x < 0 then rst else x) := by
  rw [fill_upto _ (Nat.le_refl _), List.take_length, List.drop_length, List.append_nil]

theorem acc_some {α β : Type} {f : α → Option β} : ∀ {l : List α} {acc : List β}, (∀ a ∈ l, f a ≠ none) → ∃ r : List β, optFold (fun acc a => (f a).map fun x => acc ++ [x]) acc l = some (acc ++ r) ∧ r.length = l.length ∧ ∀ (j : Nat) (a : α), l[j]? = some a → r[j]? = f a
  | [], acc, _ => ⟨[], by rw [List.append_nil]; rfl, rfl, fun j a h => by simp at h⟩
  | x :: l, acc, h => by
    cases hx : f x with
    | none => exact absurd hx (h x (.head _))
    | some y =>
      obtain ⟨r, h1, h2, h3⟩ := acc_some (f := f) (l := l) (acc := acc ++ [y]) fun a ha => h a (.tail _ ha)
      refine ⟨y :: r, ?_, by rw [List.length_cons, List.length_cons, h2], fun j a hj => ?_⟩
      · show ((f x).map fun x => acc ++ [x]).bind _ = _
        rw [hx]
        show optFold _ (acc ++ [y]) l = _
        rw [h1, List.append_assoc]
        rfl
      · cases j with
        | zero =>
          simp at hj
          subst hj
          rw [hx]
          rfl
        | succ j => exact h3 j a (by simpa using hj)
theorem acc_none {α β : Type} {f : α → Option β} {a : α} {l : List α} {acc : List β} (hm : a ∈ l) (h : f a = none) : optFold (fun acc a => (f a).map fun x => acc ++ [x]) acc l = none :=
  optFold_none_mem (a := a) (fun b => by rw [h]; rfl) hm

def pf (ps : List Pt) (lo : Int) (idx : Int) : Option Int :=
  if (takers2 ps lo (countPos ps) idx).length > 1 ∨ (takers2 ps lo (countPos ps) idx = [] ∧ lastOth ps = false) then none else some (match takers2 ps lo (countPos ps) idx with | a :: _ => a | [] => (ps.length : Int) - 1)
theorem placeStep_pf {ps : List Pt} {lo : Int} {found : List Int} {idx : Int} : placeStep ps lo (countPos ps) found idx = (pf ps lo idx).map fun x => found ++ [x] := by
  unfold placeStep pf
  dsimp only
  split <;> rfl
theorem rng_getJ {lo hi : Int} {j : Nat} {a : Int} (h : (rng lo hi)[j]? = some a) : j < (hi + 1 - lo).toNat ∧ a = lo + (j : Int) := by
  unfold rng at h
  rw [List.getElem?_map] at h
  rcases Nat.lt_or_ge j (hi + 1 - lo).toNat with hj | hj
  · rw [List.getElem?_range hj] at h
    exact ⟨hj, (Option.some.inj h).symm⟩
  · rw [List.getElem?_eq_none (by simpa using hj)] at h
    cases h
theorem rng_len {lo hi : Int} : (rng lo hi).length = (hi + 1 - lo).toNat := by unfold rng; simp

theorem spread_core {ps : List Pt} {lo hi idx rst : Int} {cl : List (Int × Int)} (h0 : lo - 1 ≤ hi) (hlen : 0 < ps.length) (hnn : ∀ p ∈ cl, 0 ≤ p.1)
    (hsp : spread1 ps lo hi = (optFold (claimP lo hi) (List.replicate (hi + 1 - lo).toNat (-1)) cl).map fun fs => (fs, idx, rst))
    (hrst : rst = if lastOth ps = true then (ps.length : Int) - 1 else -1)
    (htk : ∀ i, lo ≤ i → i ≤ hi → takers2 ps lo (countPos ps) i = takersOf cl i)
    (hout : ((namedI ps).any (badN lo hi) = true ∨ countPos ps > hi - lo + 1) ↔ ∃ p ∈ cl, ¬ (lo ≤ p.2 ∧ p.2 ≤ hi)) : spreadF ps lo hi = placesO ps lo hi := by
  unfold spreadF
  rw [hsp]
  rcases claims_all cl (cl := []) (fun _ h => by cases h) hnn (claimed_nil (lo := lo) (hi := hi)) with ⟨fs, e, C⟩ | ⟨e, Bd⟩
  · rw [List.nil_append] at C
    rw [e]
    show optFold (fillStep rst) fs (List.range fs.length) = _
    have hno : ¬ ((namedI ps).any (badN lo hi) = true ∨ countPos ps > hi - lo + 1) := fun h => by
      obtain ⟨p, hp, hn⟩ := hout.mp h
      exact hn (C.inb p hp)
    unfold placesO
    rw [if_neg fun h => hno (.inl h), if_neg fun h => hno (.inr h), fill_eq]
    rw [optFold_congr (f' := fun acc a => (pf ps lo a).map fun x => acc ++ [x]) fun a _ b => placeStep_pf]
    have hval : ∀ j : Nat, j < (hi + 1 - lo).toNat → ∃ x, fs[j]? = some x ∧ (x < 0 ↔ takersOf cl (lo + (j : Int)) = []) ∧ pf ps lo (lo + (j : Int)) = if x < 0 ∧ lastOth ps = false then none else some (if x < 0 then (ps.length : Int) - 1 else x) := by
      intro j hj
      have hat := C.at_ j hj
      have h1 := C.one (lo + (j : Int))
      have ht := htk (lo + (j : Int)) (by omega) (by omega)
      unfold pf
      rw [ht]
      cases hc : takersOf cl (lo + (j : Int)) with
      | nil =>
        rw [hc] at hat
        refine ⟨-1, hat, ⟨fun _ => rfl, fun _ => by decide⟩, ?_⟩
        cases hl : lastOth ps with
        | true => rw [if_neg (by simp), if_neg (by simp)]; rfl
        | false => rw [if_pos (.inr ⟨rfl, rfl⟩), if_pos ⟨by decide, rfl⟩]
      | cons a r =>
        rw [hc] at hat h1
        have ha : 0 ≤ a := takers_nonneg hnn (i := lo + (j : Int)) (by rw [hc]; exact .head _)
        refine ⟨a, hat, ⟨fun h => absurd h (by omega), fun h => by cases h⟩, ?_⟩
        rw [if_neg (by
          rintro (h | h)
          · omega
          · cases h.1), if_neg (by omega), if_neg (by omega)]
    by_cases hz : rst < 0 ∧ ∃ x ∈ fs, x < 0
    · rw [if_pos hz]
      obtain ⟨x, hx, hx0⟩ := hz.2
      obtain ⟨j, hj⟩ := List.mem_iff_getElem?.mp hx
      have hjl : j < (hi + 1 - lo).toNat := by
        rw [← C.len]
        rcases Nat.lt_or_ge j fs.length with h | h
        · exact h
        · rw [List.getElem?_eq_none h] at hj; cases hj
      obtain ⟨y, hy, _, hpf⟩ := hval j hjl
      rw [hj] at hy
      cases hy
      have hl : lastOth ps = false := by
        cases hl : lastOth ps with
        | false => rfl
        | true =>
          rw [hl, if_pos rfl] at hrst
          omega
      symm
      refine acc_none (a := lo + (j : Int)) (rng_mem.mpr ⟨by omega, by omega⟩) ?_
      rw [hpf, if_pos ⟨hx0, hl⟩]
    · rw [if_neg hz]
      have hall : ∀ a ∈ rng lo hi, pf ps lo a ≠ none := by
        intro a ha
        obtain ⟨h1, h2⟩ := rng_mem.mp ha
        obtain ⟨x, hx, _, hpf⟩ := hval (a - lo).toNat (by omega)
        rw [show lo + ((a - lo).toNat : Int) = a by omega] at hpf
        rw [hpf]
        by_cases c : x < 0 ∧ lastOth ps = false
        · refine absurd ⟨?_, x, List.mem_of_getElem? hx, c.1⟩ hz
          rw [hrst, c.2, if_neg Bool.false_ne_true]
          decide
        · rw [if_neg c]
          exact fun h => by cases h
      obtain ⟨r, hr1, hr2, hr3⟩ := acc_some (f := pf ps lo) (acc := []) hall
      rw [hr1, List.nil_append]
      congr 1
      refine List.ext_getElem? fun j => ?_
      rcases Nat.lt_or_ge j (hi + 1 - lo).toNat with hj | hj
      · obtain ⟨x, hx, _, hpf⟩ := hval j hj
        rw [hr3 j _ (rng_get hj), hpf, List.getElem?_map, hx]
        have c : ¬ (x < 0 ∧ lastOth ps = false) := fun c => hz ⟨by rw [hrst, c.2, if_neg Bool.false_ne_true]; decide, x, List.mem_of_getElem? hx, c.1⟩
        rw [if_neg c]
        show some (if x < 0 then rst else x) = _
        by_cases hx0 : x < 0
        · have hl : lastOth ps = true := by
            cases hl : lastOth ps with
            | true => rfl
            | false => exact absurd ⟨hx0, hl⟩ c
          rw [if_pos hx0, if_pos hx0, hrst, if_pos hl]
        · rw [if_neg hx0, if_neg hx0]
      · rw [List.getElem?_eq_none (by rw [List.length_map, C.len]; exact hj), List.getElem?_eq_none (by rw [hr2, rng_len]; exact hj)]
  · rw [List.nil_append] at Bd
    rw [e]
    show none = _
    symm
    unfold placesO
    rcases Bd with hb | ⟨i, h1, h2, h3⟩
    · rcases hout.mpr hb with h | h
      · rw [if_pos h]
      · by_cases hc : (namedI ps).any (badN lo hi) = true
        · rw [if_pos hc]
        · rw [if_neg hc, if_pos h]
    · by_cases hc : (namedI ps).any (badN lo hi) = true
      · rw [if_pos hc]
      · rw [if_neg hc]
        by_cases hd : countPos ps > hi - lo + 1
        · rw [if_pos hd]
        · rw [if_neg hd, optFold_congr (f' := fun acc a => (pf ps lo a).map fun x => acc ++ [x]) fun a _ b => placeStep_pf]
          refine acc_none (a := i) (rng_mem.mpr ⟨h1, h2⟩) ?_
          unfold pf
          rw [htk i h1 h2, if_pos (.inl h3)]
end
section
theorem dim_nat {lo hi : Int} (h : lo - 1 ≤ hi) : (dimL lo hi).toNat = (hi + 1 - lo).toNat := by
  unfold dimL
  split <;> omega
theorem sp_tail {body tail : List Pt} {lo hi idx : Int} {X : Option (List Int)} (htail : tail = [] ∨ tail = [.others]) (hb : ∀ p ∈ body, p.isOth = false) (h0 : lo - 1 ≤ hi)
    (h : optFold (spStep (body ++ tail) lo hi) (List.replicate (hi + 1 - lo).toNat (-1), lo, -1) (List.range body.length) = X.map fun fs => (fs, idx, -1)) :
    spread1 (body ++ tail) lo hi = X.map fun fs => (fs, idx, if lastOth (body ++ tail) = true then ((body ++ tail).length : Int) - 1 else -1) := by
  unfold spread1
  rw [dim_nat h0]
  rcases htail with rfl | rfl
  · have hl : lastOth (body ++ []) = false := by
      unfold lastOth
      rw [List.append_nil]
      cases hg : body.getLast? with
      | none => rfl
      | some p =>
        have := hb p (List.mem_of_getLast? hg)
        cases p <;> first | rfl | (cases this)
    rw [hl, if_neg Bool.false_ne_true]
    rw [List.append_nil] at h ⊢
    exact h
  · have hl : lastOth (body ++ [.others]) = true := by
      unfold lastOth
      rw [List.getLast?_concat]
    rw [hl, if_pos rfl, List.length_append, List.length_singleton, List.range_succ, optFold_app, h]
    cases X with
    | none => rfl
    | some fs =>
      show (spStep (body ++ [.others]) lo hi (fs, idx, -1) body.length).bind _ = _
      have hg : (body ++ [Pt.others])[body.length]? = some .others := by rw [List.getElem?_append_right (Nat.le_refl _), Nat.sub_self]; rfl
      have hs : spStep (body ++ [.others]) lo hi (fs, idx, -1) body.length = some (fs, idx, (body.length : Int)) := by
        unfold spStep
        rw [hg]
      rw [hs]
      show some (fs, idx, (body.length : Int)) = some (fs, idx, ((body.length + 1 : Nat) : Int) - 1)
      rw [show ((body.length + 1 : Nat) : Int) - 1 = (body.length : Int) by omega]

def clA (lo : Int) (k : Nat) : List (Int × Int) := (List.range k).map fun (j : Nat) => ((j : Int), lo + (j : Int))
theorem clA_succ {lo : Int} {k : Nat} : clA lo (k + 1) = clA lo k ++ [((k : Int), lo + (k : Int))] := by
  unfold clA
  rw [List.range_succ, List.map_append]
  rfl
theorem takersA {lo i : Int} (h : lo ≤ i) : ∀ k : Nat, takersOf (clA lo k) i = if i - lo < (k : Int) then [i - lo] else []
  | 0 => by rw [if_neg (by omega)]; rfl
  | k + 1 => by
    rw [clA_succ, takers_app, takers_one, takersA h k]
    by_cases h1 : i - lo < (k : Int)
    · rw [if_pos h1, if_neg (by omega), if_pos (by omega), List.append_nil]
    · by_cases h2 : lo + (k : Int) = i
      · rw [if_neg h1, if_pos h2, if_pos (by omega), List.nil_append, show i - lo = (k : Int) by omega]
      · rw [if_neg h1, if_neg h2, if_neg (by omega)]
        rfl
theorem spFoldA {ps : List Pt} {lo hi : Int} {fs0 : List Int} : ∀ k : Nat, (∀ j : Nat, j < k → ps[j]? = some .pos) → optFold (spStep ps lo hi) (fs0, lo, -1) (List.range k) = (optFold (claimP lo hi) fs0 (clA lo k)).map fun fs => (fs, lo + (k : Int), -1)
  | 0, _ => by
    show some (fs0, lo, (-1 : Int)) = some (fs0, lo + ((0 : Nat) : Int), -1)
    rw [show lo + ((0 : Nat) : Int) = lo by omega]
  | k + 1, h => by
    rw [List.range_succ, optFold_app, spFoldA k (fun j hj => h j (by omega)), clA_succ, optFold_app]
    cases optFold (claimP lo hi) fs0 (clA lo k) with
    | none => rfl
    | some fs =>
      show (spStep ps lo hi (fs, lo + (k : Int), -1) k).bind _ = ((claimP lo hi fs ((k : Int), lo + (k : Int))).bind _).map _
      have hs : spStep ps lo hi (fs, lo + (k : Int), -1) k = (claim1 lo hi k fs (lo + (k : Int))).map fun fs => (fs, lo + (k : Int) + 1, -1) := by
        unfold spStep
        rw [h k (by omega)]
      rw [hs]
      show ((claim1 lo hi k fs (lo + (k : Int))).map _).bind _ = ((claim1 lo hi k fs (lo + (k : Int))).bind _).map _
      cases claim1 lo hi k fs (lo + (k : Int)) with
      | none => rfl
      | some fs' =>
        show some (fs', lo + (k : Int) + 1, (-1 : Int)) = some (fs', lo + ((k + 1 : Nat) : Int), -1)
        rw [show lo + ((k + 1 : Nat) : Int) = lo + (k : Int) + 1 by omega]
theorem spread_A {k : Nat} {tail : List Pt} {lo hi : Int} (htail : tail = [] ∨ tail = [.others]) (hne : List.replicate k Pt.pos ++ tail ≠ []) (h0 : lo - 1 ≤ hi) : spreadF (List.replicate k .pos ++ tail) lo hi = placesO (List.replicate k .pos ++ tail) lo hi := by
  have hnm : namedI (List.replicate k .pos ++ tail) = [] := by
    unfold namedI
    refine List.filterMap_eq_nil_iff.mpr fun n hn => ?_
    unfold nameAt
    cases hp : (List.replicate k Pt.pos ++ tail)[n]? with
    | none => rfl
    | some p =>
      rcases List.mem_append.mp (List.mem_of_getElem? hp) with h | h
      · rw [List.eq_of_mem_replicate h]
      · rcases htail with rfl | rfl
        · cases h
        · rw [List.mem_singleton.mp h]
  have hcp : countPos (List.replicate k .pos ++ tail) = (k : Int) := by
    show (((List.replicate k Pt.pos ++ tail).filter isPosB).length : Int) = (k : Int)
    rw [List.filter_append]
    have h1 : (List.replicate k Pt.pos).filter isPosB = List.replicate k Pt.pos := List.filter_eq_self.mpr fun p hp => by rw [List.eq_of_mem_replicate hp]; rfl
    have h2 : tail.filter isPosB = [] := by rcases htail with rfl | rfl <;> rfl
    rw [h1, h2, List.append_nil, List.length_replicate]
  have hat : ∀ j : Nat, j < k → (List.replicate k Pt.pos ++ tail)[j]? = some .pos := fun j hj => by
    rw [List.getElem?_append_left (by simpa using hj), List.getElem?_replicate, if_pos hj]
  refine spread_core (idx := lo + (k : Int)) (rst := if lastOth (List.replicate k Pt.pos ++ tail) = true then ((List.replicate k Pt.pos ++ tail).length : Int) - 1 else -1) (cl := clA lo k) h0 (List.length_pos_iff.mpr hne) ?_ ?_ rfl ?_ ?_
  · intro p hp
    unfold clA at hp
    obtain ⟨j, _, rfl⟩ := List.mem_map.mp hp
    show (0 : Int) ≤ (j : Int)
    omega
  · refine sp_tail htail (fun p hp => by rw [List.eq_of_mem_replicate hp]; rfl) h0 ?_
    rw [List.length_replicate]
    exact spFoldA k hat
  · intro i h1 h2
    unfold takers2 takersAt
    rw [hnm, hcp, takersA h1]
    rfl
  · rw [hnm, hcp]
    constructor
    · rintro (h | h)
      · cases h
      · refine ⟨(((hi - lo + 1).toNat : Int), lo + ((hi - lo + 1).toNat : Int)), ?_, fun z => ?_⟩
        · unfold clA
          exact List.mem_map.mpr ⟨(hi - lo + 1).toNat, List.mem_range.mpr (by omega), rfl⟩
        · have := z.2
          dsimp only at this
          omega
    · rintro ⟨p, hp, hn⟩
      unfold clA at hp
      obtain ⟨j, hj, rfl⟩ := List.mem_map.mp hp
      have := List.mem_range.mp hj
      dsimp only at hn
      right
      omega

def clB (css : List (List (Int × Int))) (n : Nat) : List (Int × Int) := (List.range n).flatMap fun (k : Nat) => match css[k]? with | some cs => clOf k cs | none => []
theorem clB_succ {css : List (List (Int × Int))} {n : Nat} {cs : List (Int × Int)} (h : css[n]? = some cs) : clB css (n + 1) = clB css n ++ clOf n cs := by
  unfold clB
  rw [List.range_succ, List.flatMap_append, List.flatMap_singleton, h]
theorem takers_flat {γ : Type} {g : γ → List (Int × Int)} {i : Int} : ∀ {l : List γ}, takersOf (l.flatMap g) i = l.flatMap fun x => takersOf (g x) i
  | [] => rfl
  | x :: l => by rw [List.flatMap_cons, List.flatMap_cons, takers_app, takers_flat]
theorem takers_rng {place a b i : Int} : takersOf ((rng a b).map fun x => (place, x)) i = if a ≤ i ∧ i ≤ b then [place] else [] := by
  have key : ∀ n : Nat, takersOf (((List.range n).map fun (k : Nat) => a + (k : Int)).map fun x => (place, x)) i = if a ≤ i ∧ i < a + (n : Int) then [place] else [] := by
    intro n
    induction n with
    | zero => rw [if_neg (by omega)]; rfl
    | succ n ih =>
      rw [List.range_succ, List.map_append, List.map_append, takers_app, ih, List.map_cons, List.map_cons, List.map_nil, List.map_nil, takers_one]
      dsimp only
      by_cases h1 : a ≤ i ∧ i < a + (n : Int)
      · rw [if_pos h1, if_neg (by omega), if_pos (by omega), List.append_nil]
      · by_cases h2 : a + (n : Int) = i
        · rw [if_neg h1, if_pos h2, if_pos (by omega)]; rfl
        · rw [if_neg h1, if_neg h2, if_neg (by omega)]; rfl
  unfold rng
  rw [key]
  by_cases h : a ≤ i ∧ i ≤ b
  · rw [if_pos h, if_pos (by omega)]
  · rw [if_neg h, if_neg (by omega)]
theorem takers_cl {place i : Int} {cs : List (Int × Int)} : takersOf (clOf place cs) i = (cs.filter fun c => decide (c.1 ≤ i ∧ i ≤ c.2)).map fun _ => place := by
  unfold clOf
  rw [takers_flat]
  induction cs with
  | nil => rfl
  | cons c cs ih =>
    rw [List.flatMap_cons, ih, takers_rng]
    by_cases h : c.1 ≤ i ∧ i ≤ c.2
    · rw [if_pos h, List.filter_cons_of_pos (by simpa using h)]; rfl
    · rw [if_neg h, List.filter_cons_of_neg (by simpa using h)]; rfl
theorem flat_filterMap {α β γ : Type} {f : α → Option β} {g : β → List γ} : ∀ {l : List α}, (l.filterMap f).flatMap g = l.flatMap fun a => match f a with | some x => g x | none => []
  | [] => rfl
  | a :: l => by
    cases h : f a with
    | none => rw [List.filterMap_cons_none h, List.flatMap_cons, h, flat_filterMap]; rfl
    | some x => rw [List.filterMap_cons_some h, List.flatMap_cons, List.flatMap_cons, h, flat_filterMap]
theorem spFoldB {ps : List Pt} {css : List (List (Int × Int))} {lo hi : Int} {fs0 : List Int} : ∀ n : Nat, n ≤ css.length → (∀ (j : Nat) (cs : List (Int × Int)), css[j]? = some cs → ps[j]? = some (.named cs)) →
    optFold (spStep ps lo hi) (fs0, lo, -1) (List.range n) = (optFold (claimP lo hi) fs0 (clB css n)).map fun fs => (fs, lo, -1)
  | 0, _, _ => rfl
  | n + 1, hn, h => by
    obtain ⟨cs, hcs⟩ : ∃ cs, css[n]? = some cs := ⟨_, List.getElem?_eq_getElem (by omega)⟩
    rw [List.range_succ, optFold_app, spFoldB n (by omega) h, clB_succ hcs, optFold_app]
    cases optFold (claimP lo hi) fs0 (clB css n) with
    | none => rfl
    | some fs =>
      show (spStep ps lo hi (fs, lo, -1) n).bind _ = (optFold (claimP lo hi) fs (clOf n cs)).map _
      have hs : spStep ps lo hi (fs, lo, -1) n = (claimCs lo hi n fs cs).map fun fs => (fs, lo, -1) := by
        unfold spStep
        rw [h n cs hcs]
      rw [hs, claimCs_eq]
      cases optFold (claimP lo hi) fs (clOf n cs) <;> rfl
theorem spread_B {css : List (List (Int × Int))} {tail : List Pt} {lo hi : Int} (htail : tail = [] ∨ tail = [.others]) (hne : css.map Pt.named ++ tail ≠ []) (h0 : lo - 1 ≤ hi) : spreadF (css.map .named ++ tail) lo hi = placesO (css.map .named ++ tail) lo hi := by
  have hcp : countPos (css.map .named ++ tail) = 0 := by
    show (((css.map Pt.named ++ tail).filter isPosB).length : Int) = 0
    rw [List.filter_append]
    have h1 : (css.map Pt.named).filter isPosB = [] := List.filter_eq_nil_iff.mpr fun p hp => by
      obtain ⟨cs, _, rfl⟩ := List.mem_map.mp hp
      exact Bool.false_ne_true
    have h2 : tail.filter isPosB = [] := by rcases htail with rfl | rfl <;> rfl
    rw [h1, h2]
    rfl
  have hat : ∀ (j : Nat) (cs : List (Int × Int)), css[j]? = some cs → (css.map Pt.named ++ tail)[j]? = some (.named cs) := fun j cs hj => by
    have hjl : j < css.length := by
      rcases Nat.lt_or_ge j css.length with h | h
      · exact h
      · rw [List.getElem?_eq_none h] at hj; cases hj
    rw [List.getElem?_append_left (by simpa using hjl), List.getElem?_map, hj]
    rfl
  have hname : ∀ n : Nat, nameAt (css.map .named ++ tail) n = (css[n]?).map fun cs => ((n : Int), cs) := fun n => by
    unfold nameAt
    cases hj : css[n]? with
    | some cs => rw [hat n cs hj]; rfl
    | none =>
      have hjl : css.length ≤ n := by
        rcases Nat.lt_or_ge n css.length with h | h
        · rw [List.getElem?_eq_getElem h] at hj; cases hj
        · exact h
      rw [List.getElem?_append_right (by simpa using hjl)]
      rcases htail with rfl | rfl
      · rfl
      · cases hq : ([Pt.others])[n - (css.map Pt.named).length]? with
        | none => rfl
        | some p => rw [List.mem_singleton.mp (List.mem_of_getElem? hq)]; rfl
  have hrange : namedI (css.map .named ++ tail) = (List.range css.length).filterMap fun (n : Nat) => (css[n]?).map fun cs => ((n : Int), cs) := by
    unfold namedI
    have e : nameAt (css.map .named ++ tail) = fun (n : Nat) => (css[n]?).map fun cs => ((n : Int), cs) := funext hname
    rw [e, List.length_append, List.length_map, List.range_add, List.filterMap_append]
    rw [show List.filterMap (fun (n : Nat) => (css[n]?).map fun cs => ((n : Int), cs)) ((List.range tail.length).map fun x => css.length + x) = [] from List.filterMap_eq_nil_iff.mpr fun n hn => by
      obtain ⟨x, _, rfl⟩ := List.mem_map.mp hn
      rw [List.getElem?_eq_none (by omega)]
      rfl, List.append_nil]
  have hmem : ∀ (x : Int × List (Int × Int)), x ∈ namedI (css.map .named ++ tail) ↔ ∃ n : Nat, n < css.length ∧ css[n]? = some x.2 ∧ x.1 = (n : Int) := fun x => by
    rw [hrange, List.mem_filterMap]
    constructor
    · rintro ⟨n, hn, hx⟩
      obtain ⟨cs, hcs, rfl⟩ := Option.map_eq_some_iff.mp hx
      exact ⟨n, List.mem_range.mp hn, hcs, rfl⟩
    · rintro ⟨n, hn, hc, h1⟩
      refine ⟨n, List.mem_range.mpr hn, ?_⟩
      rw [hc, ← h1]
      rfl
  have hclm : ∀ p : Int × Int, p ∈ clB css css.length ↔ ∃ n : Nat, n < css.length ∧ ∃ cs, css[n]? = some cs ∧ ∃ c ∈ cs, p.1 = (n : Int) ∧ c.1 ≤ p.2 ∧ p.2 ≤ c.2 := fun p => by
    unfold clB
    rw [List.mem_flatMap]
    constructor
    · rintro ⟨n, hn, hp⟩
      cases hc : css[n]? with
      | none => rw [hc] at hp; cases hp
      | some cs =>
        rw [hc] at hp
        unfold clOf at hp
        obtain ⟨c, hcm, hp⟩ := List.mem_flatMap.mp hp
        obtain ⟨x, hx, rfl⟩ := List.mem_map.mp hp
        exact ⟨n, List.mem_range.mp hn, cs, hc, c, hcm, rfl, rng_mem.mp hx⟩
    · rintro ⟨n, hn, cs, hc, c, hcm, h1, h2⟩
      refine ⟨n, List.mem_range.mpr hn, ?_⟩
      rw [hc]
      unfold clOf
      exact List.mem_flatMap.mpr ⟨c, hcm, List.mem_map.mpr ⟨p.2, rng_mem.mpr h2, by rw [← h1]⟩⟩
  refine spread_core (idx := lo) (rst := if lastOth (css.map Pt.named ++ tail) = true then ((css.map Pt.named ++ tail).length : Int) - 1 else -1) (cl := clB css css.length) h0 (List.length_pos_iff.mpr hne) ?_ ?_ rfl ?_ ?_
  · intro p hp
    obtain ⟨n, _, _, _, _, _, h1, _⟩ := (hclm p).mp hp
    omega
  · refine sp_tail htail (fun p hp => by
      obtain ⟨cs, _, rfl⟩ := List.mem_map.mp hp
      rfl) h0 ?_
    rw [List.length_map]
    exact spFoldB css.length (Nat.le_refl _) hat
  · intro i h1 h2
    unfold takers2 takersAt
    rw [hcp, if_neg (by omega), hrange, flat_filterMap]
    unfold clB
    rw [takers_flat]
    congr 1
    funext n
    cases css[n]? with
    | none => rfl
    | some cs => exact takers_cl.symm
  · rw [hcp]
    constructor
    · rintro (h | h)
      · obtain ⟨x, hx, hb⟩ := List.any_eq_true.mp h
        obtain ⟨c, hc, hb⟩ := List.any_eq_true.mp hb
        obtain ⟨n, hn, hcs, e⟩ := (hmem x).mp hx
        have hb' := of_decide_eq_true hb
        rcases hb'.2 with h1 | h1
        · exact ⟨((n : Int), c.1), (hclm _).mpr ⟨n, hn, x.2, hcs, c, hc, rfl, Int.le_refl _, hb'.1⟩, fun z => absurd z.1 (by dsimp only; omega)⟩
        · exact ⟨((n : Int), c.2), (hclm _).mpr ⟨n, hn, x.2, hcs, c, hc, rfl, hb'.1, Int.le_refl _⟩, fun z => absurd z.2 (by dsimp only; omega)⟩
      · omega
    · rintro ⟨p, hp, hn⟩
      obtain ⟨n, hnl, cs, hcs, c, hc, e, h1, h2⟩ := (hclm p).mp hp
      refine .inl (List.any_eq_true.mpr ⟨((n : Int), cs), (hmem _).mpr ⟨n, hnl, hcs, rfl⟩, List.any_eq_true.mpr ⟨c, hc, decide_eq_true ⟨by omega, by omega⟩⟩⟩)
theorem spread_places {ps : List Pt} {lo hi : Int} (hok : PartsOk ps) (h : lo - 1 ≤ hi) (h1 : hi - lo ≤ 100) : spreadO ps lo hi 10000 = (match placesO ps lo hi with | none => .inl (Str.ofString "constraint_error") | some fs => .inr fs) := by
  have e : spreadF ps lo hi = placesO ps lo hi := by
    obtain ⟨body, tail, rfl, hne, htail, hbody⟩ := hok
    rcases hbody with ⟨k, _, rfl⟩ | ⟨css, _, rfl, _⟩
    · exact spread_A htail hne h
    · exact spread_B htail hne h
  unfold spreadO
  rw [if_pos (by unfold dimL; split <;> omega), e]
  cases placesO ps lo hi <;> rfl
end
section
def NbInv (l : List (Int × Int)) (f : Option (Int × Int)) : Prop :=
  ∃ b, f = some b ∧ (((∀ c ∈ l, c.2 < c.1) ∧ l.head? = some b) ∨ (b.1 ≤ b.2 ∧ (∃ c ∈ l, c.1 ≤ c.2 ∧ c.1 = b.1) ∧ (∃ c ∈ l, c.1 ≤ c.2 ∧ c.2 = b.2) ∧ ∀ c ∈ l, c.1 ≤ c.2 → b.1 ≤ c.1 ∧ c.2 ≤ b.2))
theorem nb_one (c : Int × Int) : NbInv [c] (some c) := by
  refine ⟨c, rfl, ?_⟩
  by_cases h : c.1 ≤ c.2
  · exact .inr ⟨h, ⟨c, .head _, h, rfl⟩, ⟨c, .head _, h, rfl⟩, fun d hd _ => by rw [List.mem_singleton.mp hd]; exact ⟨Int.le_refl _, Int.le_refl _⟩⟩
  · exact .inl ⟨fun d hd => by rw [List.mem_singleton.mp hd]; omega, rfl⟩
theorem nb_next {l : List (Int × Int)} {f : Option (Int × Int)} (c : Int × Int) (h : NbInv l f) : NbInv (l ++ [c]) (nbStep f c) := by
  obtain ⟨b, rfl, h⟩ := h
  show NbInv (l ++ [c]) (if b.2 < b.1 ∧ c.1 ≤ c.2 then some c else if c.1 ≤ c.2 then some (if c.1 < b.1 then c.1 else b.1, if c.2 > b.2 then c.2 else b.2) else some b)
  have hmem : ∀ d ∈ l ++ [c], d ∈ l ∨ d = c := fun d hd => by
    rcases List.mem_append.mp hd with hd | hd
    · exact .inl hd
    · exact .inr (List.mem_singleton.mp hd)
  have hcm : c ∈ l ++ [c] := List.mem_append_right _ (.head _)
  rcases h with ⟨hall, hh⟩ | ⟨hb, ⟨c1, m1, v1, e1⟩, ⟨c2, m2, v2, e2⟩, hall⟩
  · have hbm : b ∈ l := by
      cases l with
      | nil => cases hh
      | cons x r =>
        cases hh
        exact .head _
    have hbe := hall b hbm
    by_cases hc : c.1 ≤ c.2
    · rw [if_pos ⟨hbe, hc⟩]
      refine ⟨c, rfl, .inr ⟨hc, ⟨c, hcm, hc, rfl⟩, ⟨c, hcm, hc, rfl⟩, fun d hd hv => ?_⟩⟩
      rcases hmem d hd with hd | rfl
      · exact absurd (hall d hd) (by omega)
      · exact ⟨Int.le_refl _, Int.le_refl _⟩
    · rw [if_neg fun z => hc z.2, if_neg hc]
      refine ⟨b, rfl, .inl ⟨fun d hd => ?_, ?_⟩⟩
      · rcases hmem d hd with hd | rfl
        · exact hall d hd
        · omega
      · cases l with
        | nil => cases hh
        | cons x r => exact hh
  · rw [if_neg (by omega)]
    by_cases hc : c.1 ≤ c.2
    · rw [if_pos hc]
      refine ⟨_, rfl, .inr ⟨?_, ?_, ?_, fun d hd hv => ?_⟩⟩
      · dsimp only
        split <;> split <;> omega
      · by_cases hlt : c.1 < b.1
        · exact ⟨c, hcm, hc, by dsimp only; rw [if_pos hlt]⟩
        · exact ⟨c1, List.mem_append_left _ m1, v1, by dsimp only; rw [if_neg hlt]; exact e1⟩
      · by_cases hlt : c.2 > b.2
        · exact ⟨c, hcm, hc, by dsimp only; rw [if_pos hlt]⟩
        · exact ⟨c2, List.mem_append_left _ m2, v2, by dsimp only; rw [if_neg hlt]; exact e2⟩
      · dsimp only
        rcases hmem d hd with hd | rfl
        · have := hall d hd hv
          split <;> split <;> omega
        · split <;> split <;> omega
    · rw [if_neg hc]
      refine ⟨b, rfl, .inr ⟨hb, ⟨c1, List.mem_append_left _ m1, v1, e1⟩, ⟨c2, List.mem_append_left _ m2, v2, e2⟩, fun d hd hv => ?_⟩⟩
      rcases hmem d hd with hd | rfl
      · exact hall d hd hv
      · exact absurd hv hc
theorem nb_rest : ∀ (r : List (Int × Int)) {l : List (Int × Int)} {f : Option (Int × Int)}, NbInv l f → NbInv (l ++ r) (r.foldl nbStep f)
  | [], l, f, h => by rw [List.append_nil]; exact h
  | c :: r, l, f, h => by
    rw [show l ++ c :: r = (l ++ [c]) ++ r by simp]
    exact nb_rest r (nb_next c h)
theorem nb_all {l : List (Int × Int)} (h : l ≠ []) : NbInv l (l.foldl nbStep none) := by
  cases l with
  | nil => exact absurd rfl h
  | cons c r => exact nb_rest r (nb_one c)
theorem fold_flat : ∀ (css : List (List (Int × Int))) (f : Option (Int × Int)), css.foldl (fun f cs => cs.foldl nbStep f) f = css.flatten.foldl nbStep f
  | [], _ => rfl
  | cs :: css, f => by
    rw [List.flatten_cons, List.foldl_append]
    exact fold_flat css _

theorem run_filter {a : Int} {n : Nat} {p : Int → Bool} {i : Int} {is : List Int} (h : ((List.range n).map fun (k : Nat) => a + (k : Int)).filter p = i :: is) :
    (∀ j, j ∈ i :: is ↔ (a ≤ j ∧ j < a + (n : Int)) ∧ p j = true) ∧ (∀ j ∈ i :: is, i ≤ j) ∧ ∀ j ∈ i :: is, j ≤ (i :: is).getLast (by simp) := by
  have hpw : List.Pairwise (· < ·) (i :: is) := by
    rw [← h]
    refine List.Pairwise.filter _ (List.pairwise_map.mpr ?_)
    exact List.Pairwise.imp (fun h => by omega) List.pairwise_lt_range
  refine ⟨fun j => ?_, fun j hj => ?_, fun j hj => ?_⟩
  · rw [← h, List.mem_filter, List.mem_map]
    constructor
    · rintro ⟨⟨k, hk, rfl⟩, hp⟩
      have := List.mem_range.mp hk
      exact ⟨by omega, hp⟩
    · rintro ⟨⟨h1, h2⟩, hp⟩
      exact ⟨⟨(j - a).toNat, List.mem_range.mpr (by omega), by omega⟩, hp⟩
  · rcases List.mem_cons.mp hj with rfl | hj
    · exact Int.le_refl _
    · exact Int.le_of_lt (List.rel_of_pairwise_cons hpw hj)
  · have key : ∀ (l : List Int) (hne : l ≠ []), List.Pairwise (· < ·) l → ∀ j ∈ l, j ≤ l.getLast hne := by
      intro l
      induction l with
      | nil => intro hne; exact absurd rfl hne
      | cons x r ih =>
        intro hne hp j hj
        cases r with
        | nil =>
          rw [List.mem_singleton.mp hj]
          exact Int.le_refl _
        | cons y r =>
          rw [List.getLast_cons (by simp)]
          have hr := ih (by simp) (List.Pairwise.of_cons hp)
          rcases List.mem_cons.mp hj with rfl | hj
          · exact Int.le_trans (Int.le_of_lt (List.rel_of_pairwise_cons hp (.head _))) (hr y (.head _))
          · exact hr j hj
    exact key _ _ hpw j hj

theorem has_css {css : List (List (Int × Int))} {i : Int} : (css.map Pt.named).any (Pt.has i) = true ↔ ∃ c ∈ css.flatten, c.1 ≤ i ∧ i ≤ c.2 := by
  rw [List.any_eq_true]
  constructor
  · rintro ⟨p, hp, h⟩
    obtain ⟨cs, hcs, rfl⟩ := List.mem_map.mp hp
    obtain ⟨c, hc, h⟩ := List.any_eq_true.mp h
    exact ⟨c, List.mem_flatten.mpr ⟨cs, hcs, hc⟩, of_decide_eq_true h⟩
  · rintro ⟨c, hc, h⟩
    obtain ⟨cs, hcs, hc⟩ := List.mem_flatten.mp hc
    exact ⟨.named cs, List.mem_map.mpr ⟨cs, hcs, rfl⟩, List.any_eq_true.mpr ⟨c, hc, decide_eq_true h⟩⟩
theorem told_nb {cs : List (Int × Int)} {css : List (List (Int × Int))} {g : Option (Int × Int)} {low : Int} (hok : ∀ c ∈ cs :: css, CsOk c) :
    toldN ((cs :: css).map .named) g low = nbFold (cs :: css) ∧ ∃ b, nbFold (cs :: css) = some b ∧ -1 ≤ b.1 ∧ b.1 ≤ 7 ∧ b.1 - 1 ≤ b.2 ∧ b.2 ≤ 7 := by
  have hcs0 := (hok cs (.head _)).1
  obtain ⟨c0, cr, rfl⟩ : ∃ a b, cs = a :: b := by
    cases cs with
    | nil => exact absurd rfl hcs0
    | cons a b => exact ⟨a, b, rfl⟩
  have hch : ∀ c ∈ ((c0 :: cr) :: css).flatten, ChOk c := fun c hc => by
    obtain ⟨cs, hcs, hc⟩ := List.mem_flatten.mp hc
    exact (hok cs hcs).2.2 c hc
  have hflat : ((c0 :: cr) :: css).flatten ≠ [] := by simp
  have hnb : nbFold ((c0 :: cr) :: css) = ((c0 :: cr) :: css).flatten.foldl nbStep none := fold_flat _ _
  obtain ⟨b, hb, hinv⟩ := nb_all hflat
  rw [hnb, hb]
  have hidx : toldIdx (((c0 :: cr) :: css).map .named) = ((List.range 15).map fun (k : Nat) => -3 + (k : Int)).filter fun i => (((c0 :: cr) :: css).map Pt.named).any (Pt.has i) := rfl
  rcases hinv with ⟨hall, hh⟩ | ⟨hbb, ⟨c1, m1, v1, e1⟩, ⟨c2, m2, v2, e2⟩, hall⟩
  · have hnil : toldIdx (((c0 :: cr) :: css).map .named) = [] := by
      rw [hidx]
      refine List.filter_eq_nil_iff.mpr fun i _ h => ?_
      obtain ⟨c, hc, h1⟩ := has_css.mp h
      have := hall c hc
      omega
    have hb0 : b = c0 := by
      have : ((c0 :: cr) :: css).flatten.head? = some c0 := by simp
      rw [this] at hh
      exact (Option.some.inj hh).symm
    subst hb0
    refine ⟨?_, b, rfl, ?_⟩
    · exact (toldN_nil (ps := ((b :: cr) :: css).map .named) (r := css.map .named) (cs := b :: cr) rfl hnil).trans rfl
    · have h1 : ChOk b := hch b (by simp)
      have h2 := hall b (by simp)
      obtain ⟨q1, q2, q3, q4⟩ := h1
      omega
  · have hc1 := hch c1 m1
    have hc2 := hch c2 m2
    obtain ⟨q1, q2, q3, q4⟩ := hc1
    obtain ⟨r1, r2, r3, r4⟩ := hc2
    refine ⟨?_, b, rfl, by omega⟩
    cases hi : toldIdx (((c0 :: cr) :: css).map .named) with
    | nil =>
      have hmem : b.1 ∈ toldIdx (((c0 :: cr) :: css).map .named) := by
        rw [hidx]
        refine List.mem_filter.mpr ⟨List.mem_map.mpr ⟨(b.1 + 3).toNat, List.mem_range.mpr (by omega), by omega⟩, has_css.mpr ⟨c1, m1, by omega, by omega⟩⟩
      rw [hi] at hmem
      cases hmem
    | cons i is =>
      rw [toldN_cons (ps := ((c0 :: cr) :: css).map .named) (r := css.map .named) (cs := c0 :: cr) rfl hi]
      rw [hidx] at hi
      obtain ⟨hm, hlo, hhi⟩ := run_filter hi
      have hb1 : b.1 ∈ i :: is := (hm _).mpr ⟨by omega, has_css.mpr ⟨c1, m1, by omega, by omega⟩⟩
      have hb2 : b.2 ∈ i :: is := (hm _).mpr ⟨by omega, has_css.mpr ⟨c2, m2, by omega, by omega⟩⟩
      obtain ⟨c3, m3, v3⟩ := has_css.mp ((hm i).mp (.head _)).2
      obtain ⟨c4, m4, v4⟩ := has_css.mp ((hm _).mp (List.getLast_mem (l := i :: is) (by simp))).2
      have w3 := hall c3 m3 (by omega)
      have w4 := hall c4 m4 (by omega)
      have x1 := hlo _ hb1
      have x2 := hhi _ hb2
      have y1 : i = b.1 := by omega
      have y2 : (i :: is).getLast (by simp) = b.2 := by omega
      rw [y2, y1]

theorem not_oth_last {body tail : List Pt} (htail : tail = [] ∨ tail = [.others]) (h : lastOth (body ++ tail) = false) : tail = [] := by
  rcases htail with h' | h'
  · exact h'
  · subst h'
    unfold lastOth at h
    rw [List.getLast?_concat] at h
    cases h
theorem not_oth_told {ps : List Pt} {g : Option (Int × Int)} {low : Int} (h : lastOth ps = false) : toldB ps g low = toldN ps g low ∧ aggB ps g low = aggN ps g low := by
  unfold lastOth at h
  unfold toldB aggB
  cases hg : ps.getLast? with
  | none => exact ⟨rfl, rfl⟩
  | some p =>
    rw [hg] at h
    cases p with
    | others => cases h
    | pos => exact ⟨rfl, rfl⟩
    | named cs => exact ⟨rfl, rfl⟩
theorem oth_told {ps : List Pt} {g : Option (Int × Int)} {low : Int} (h : lastOth ps = true) : toldB ps g low = g ∧ aggB ps g low = g := by
  unfold lastOth at h
  unfold toldB aggB
  cases hg : ps.getLast? with
  | none => rw [hg] at h; cases h
  | some p =>
    rw [hg] at h
    cases p with
    | others => exact ⟨rfl, rfl⟩
    | pos => cases h
    | named cs => cases h
theorem map_cs : ∀ css : List (List (Int × Int)), (css.map Pt.named).map Pt.cs = css
  | [] => rfl
  | cs :: css => by
    rw [List.map_cons, List.map_cons, map_cs css]
    rfl
theorem agg_told {ps : List Pt} {g : Option (Int × Int)} {low : Int} (hok : PartsOk ps) : aggB ps g low = toldB ps g low := by
  cases hl : lastOth ps with
  | true => rw [(oth_told hl).1, (oth_told hl).2]
  | false =>
    rw [(not_oth_told hl).1, (not_oth_told hl).2]
    obtain ⟨body, tail, rfl, hne, htail, hbody⟩ := hok
    have ht := not_oth_last htail hl
    subst ht
    rw [List.append_nil] at hne ⊢
    rcases hbody with ⟨k, _, rfl⟩ | ⟨css, _, rfl, h3⟩
    · cases k with
      | zero => exact absurd rfl hne
      | succ k => rfl
    · cases css with
      | nil => exact absurd rfl hne
      | cons cs css =>
        rw [(told_nb h3).1]
        show nbFold (((cs :: css).map Pt.named).map Pt.cs) = _
        rw [map_cs]
theorem told_some {ps : List Pt} {low : Int} (hok : PartsOk ps) (h : lastOth ps = false) : ∃ b, toldB ps none low = some b ∧ (0 ≤ low → low ≤ 10 → -1 ≤ b.1 ∧ b.1 ≤ 20 ∧ b.1 - 1 ≤ b.2 ∧ b.2 ≤ 30) := by
  rw [(not_oth_told h).1]
  obtain ⟨body, tail, rfl, hne, htail, hbody⟩ := hok
  have ht := not_oth_last htail h
  subst ht
  rw [List.append_nil] at hne ⊢
  rcases hbody with ⟨k, hk, rfl⟩ | ⟨css, _, rfl, h3⟩
  · cases k with
    | zero => exact absurd rfl hne
    | succ k =>
      refine ⟨(low, low + ((List.replicate (k + 1) Pt.pos).length : Int) - 1), rfl, fun h1 h2 => ?_⟩
      rw [List.length_replicate]
      dsimp only
      omega
  · cases css with
    | nil => exact absurd rfl hne
    | cons cs css =>
      obtain ⟨e, b, hb, h4⟩ := told_nb (g := none) (low := low) h3
      exact ⟨b, by rw [e, hb], fun _ _ => by omega⟩
theorem spread_storage {ps : List Pt} : spreadO ps 1 9 8 = .inl (Str.ofString "storage_error") := by
  unfold spreadO
  exact if_neg (by decide)
theorem parts_chok {ps : List Pt} (hok : PartsOk ps) : ∀ p ∈ ps, ∀ cs, p = .named cs → ∀ c ∈ cs, ChOk c := by
  obtain ⟨body, tail, rfl, _, htail, hbody⟩ := hok
  intro p hp cs e
  subst e
  rcases List.mem_append.mp hp with hm | hm
  · rcases hbody with ⟨k, _, rfl⟩ | ⟨css, _, rfl, h3⟩
    · cases (List.eq_of_mem_replicate hm)
    · obtain ⟨c, hc, e⟩ := List.mem_map.mp hm
      cases e
      exact (h3 _ hc).2.2
  · rcases htail with rfl | rfl
    · cases hm
    · cases List.mem_singleton.mp hm
end
section
theorem g_ne {prog : Program} {w : World} {A : Around} {E : Value → Shared → Prop} {s : Shared} {h₀ : Heap} {L : Addr} {news : Led} {va vb : Value} {x : Option (Int × Int)} {Q : Value → Shared → Prop} (N : News h₀ L s.heap news) (ha : GIn news va x) (hb : GIn news vb x) (hu : A.units < cLine)
    (h : Q (.bool false) s) : wpAny (model prog w) A (compareOp .NotEq va vb) Q E s := by
  cases x with
  | none =>
    obtain rfl : va = .none := ha
    obtain rfl : vb = .none := hb
    exact RcNeAt.none_none prog w E Q h
  | some b =>
    obtain ⟨p, n, t, u, rfl, hp⟩ := ha
    obtain ⟨q, n', t', u', rfl, hq⟩ := hb
    refine pair_ne N hp hq hu prog w E Q ?_
    rw [decide_eq_true (⟨rfl, rfl⟩ : b.1 = b.1 ∧ b.2 = b.2)]
    exact h
theorem ints_get : ∀ {vs : List Value} {ns : List Int}, IntsAre vs ns → ∀ {i : Nat} {v : Value}, vs[i]? = some v → ∃ x t, v = .int x t
  | _, _, .nil, i, v, h => by simp at h
  | _, _, .cons n t _, 0, v, h => by
    simp at h
    exact ⟨n, t, h.symm⟩
  | _, _, .cons _ _ r, i + 1, v, h => ints_get r (i := i) (by simpa using h)
theorem ints_of : ∀ {vs : List Value} {xs : List Int}, Paired IntV vs xs → IntsAre vs xs
  | _, _, .nil => .nil
  | _, _, .cons ⟨t, e⟩ r => e ▸ .cons _ t (ints_of r)
set_option maxHeartbeats 8000000 in
theorem law_holds : PySem.Challenge.rw_pb0005_01.Holds := Mine.hd (by
  k_go0
  (all_goals try k_fold)
  rename_i w s₀ s₁ mg mb G Y fa o pm doc kV ho hg KX X V GL T B TE TW w8 w9 M w7 w6 hcd ns hs hlay0 hL0 hr0 hl2 w4 w3 w2 vs w0 hL ra w1 r0 hI hr hlen hc2 K0 hD h1 F N0
  have hbs : BrkSub := ⟨⟩
  k_steps
  refine unbrk ?_
  (try k_fold)
  refine lc_none (cl := []) rfl rfl (by decide) (fun _ => rfl) ?_
  k_steps
  rename_i d2 ws h2 F2 N2 hI2 hC2 hL2 _
  refine unbrk ?_
  (try k_fold)
  have hwl : ws.length = (ns.take 40).length := hI2.length
  refine comp_list (l := d2) (vs := ws) (ln := 0) rfl (fun j ys nx => nx = [(d2, listOf ws.toArray 0)] ∧ (∃ xs, Paired IntV ys xs ∧ xs.length = j) ∧ j ≤ 40) ?hl ?hlen F2 N2 ⟨rfl, ⟨[], .nil, rfl⟩, by omega⟩ (by decide) rfl ?turn ?done
  case hl =>
    intro j ys nx hJ
    rw [hJ.1]
    exact .head _
  case hlen =>
    intro j ys nx hJ
    obtain ⟨f1, ⟨xs, f2, f3⟩, f4⟩ := hJ
    have := paired_length f2
    omega
  case turn =>
    intro C D j v h3 tk3 nx oC cm ys k ow Bk hv F3 N3 off3 hns3 hJ
    obtain ⟨f1, ⟨xs, f2, f3⟩, f4⟩ := hJ
    subst f1
    obtain ⟨xv, tv, rfl⟩ := ints_get hI2 hv
    have hj40 : j < 40 := by
      rcases Nat.lt_or_ge j ws.length with h | h
      · omega
      · rw [List.getElem?_eq_none h] at hv; cases hv
    refine bind_name Bk rfl rfl F3 N3 off3 hns3 (fun h4 oC4 F4 N4 off4 hns4 => ?_)
    refine ⟨oC4, _, hns4, ?_⟩
    refine wpAny_tests_nil ?_
    rw [if_pos rfl]
    k_steps
    exact ⟨h4, _, _, rfl, F4, N4, off4, rfl, ⟨_, paired_snoc f2 ⟨_, rfl⟩, by simp [f3]⟩, by omega⟩
  case done =>
    intro C D h3 tk3 nx oC cm ys k hCD hlt F3 N3 off3 hns3 hJ
    obtain ⟨f1, ⟨xs, f2, f3⟩, f4⟩ := hJ
    subst f1
    refine post_none hCD F3 N3 off3 hns3 (fun h4 F4 N4 hne4 => ?_)
    k_steps
    rename_i sk h5' l5 h5 F5 N5
    refine unbrk ?_
    (try k_fold)
    have hxl : xs.length ≤ 40 := by omega
    have hrest5 : ∀ p ∈ [(D, listOf ys.toArray k), (d2, listOf ws.toArray 0)], p.1 ≠ sk := List.forall_mem_cons.mpr ⟨Nat.ne_of_lt l5.1, List.forall_mem_cons.mpr ⟨Nat.ne_of_lt l5.2, List.forall_mem_nil _⟩⟩
    refine' (parts_spec w _ _ mg mb (rest := [(D, listOf ys.toArray k), (d2, listOf ws.toArray 0)]) (.head _) hrest5 (ints_of f2) hxl (by decide) (by decide)) _ _ _ _ _ _ _ _ _ _ _ _ _ _ _ _ _ (by assumption) (by assumption) (by assumption) (N5) (by assumption) (by first | exact rfl | assumption) ?kd1 ?ku1 ?kr1
    case kd1 => first | omega | (dsimp only [ktrTop, Around.deeper, Around.mark, Around.in1]; omega) | exact Nat.le_of_ble_eq_true rfl
    case ku1 => first | omega | (dsimp only [ktrTop, Around.deeper, Around.mark, Around.in1]; omega) | exact Nat.le_of_ble_eq_true rfl
    intro ps v tl spot t6 h6 tk6 hok F6 N6 hpt htl hs0 hs1
    k_steps
    refine unbrk ?_
    (try k_fold)
    obtain ⟨pl, np, refs, rfl, hmt, hpp⟩ := hpt
    obtain ⟨rest6, hrest6⟩ : ∃ r, r = tl ++ [(D, listOf ys.toArray k), (d2, listOf ws.toArray 0)] := ⟨_, rfl⟩
    (with_reducible rename Fr _ _ _ _ => kF)
    (with_reducible rename News _ _ _ _ => kN)
    replace kN := news_sub (a := (sk, sackO D spot t6 0) :: rest6) kN (fun p hp => by rw [hrest6] at hp; exact hp)
    have hb6 : (D, listOf ys.toArray k) ∈ rest6 := hrest6 ▸ List.mem_append_right _ (.head _)
    have hm6 : (pl, listOf refs.toArray np) ∈ rest6 := hrest6 ▸ List.mem_append_left _ hmt
    have hp6 : Paired (PtIn rest6) refs ps := paired_mono (fun _ _ y => PtIn.mono y fun p hp => hrest6 ▸ List.mem_append_left _ hp) hpp
    have hsk6 : ∀ p ∈ rest6, p.1 ≠ sk := by
      rw [hrest6]
      exact List.forall_mem_append.mpr ⟨htl, hrest5⟩
    have hll := paired_length hp6
    have hne0 : ps ≠ [] := by
      obtain ⟨_, _, _, h, _⟩ := hok
      exact h
    have hpos : 0 < ps.length := List.length_pos_iff.mpr hne0
    have hps10 : ps.length ≤ 10 := by
      obtain ⟨body, tail, rfl, _, htail, hbody⟩ := hok
      rw [List.length_append]
      have h1 : tail.length ≤ 1 := by rcases htail with h | h <;> rw [h] <;> decide
      have h2 : body.length ≤ 5 := by
        rcases hbody with ⟨k, hk, e⟩ | ⟨css, hk, e, _⟩
        · rw [e, List.length_replicate]; omega
        · rw [e, List.length_map]; omega
      omega
    obtain ⟨pL, hpL⟩ : ∃ p, ps[ps.length - 1]? = some p := ⟨_, List.getElem?_eq_getElem (by omega)⟩
    have hlast : lastOth ps = pL.isOth := by
      unfold lastOth
      rw [List.getLast?_eq_getElem?, hpL]
      cases pL <;> rfl
    obtain ⟨vL, hvL, aL, nL, vcL, xL, tL, rfl, hmL, hcL⟩ := paired_get' hp6 hpL
    rw [← hll] at hvL
    clear hrest6 hpp hmt htl hrest5
    refine' (grab_spec w _ _ mg mb (rest := rest6) hb6 hsk6 (ints_of f2) hxl hs0 (by omega) (by decide) (by decide)) _ _ _ _ _ _ _ _ _ _ _ _ _ _ _ _ _ (by assumption) (by assumption) (by assumption) (kN) (by assumption) (by first | exact rfl | assumption) ?kd2 ?ku2 ?kr2
    case kd2 => first | omega | (dsimp only [ktrTop, Around.deeper, Around.mark, Around.in1]; omega) | exact Nat.le_of_ble_eq_true rfl
    case ku2 => first | omega | (dsimp only [ktrTop, Around.deeper, Around.mark, Around.in1]; omega) | exact Nat.le_of_ble_eq_true rfl
    intro low tlow t7 h7 tk7 low0 low1 F7 N7
    have hbi : BrkIf := ⟨⟩
    k_steps
    refine unbrk ?_
    (try k_fold)
    refine cut_next (R := fun s' => ∃ h tk gv g tl2 spot2 t2, s' = { s₁ with heap := h, toks := tk } ∧ Fr s₁.heap s₁.heap.objs.size h (fun y => if y = Str.ofString "given" then some gv else if y = Str.ofString "low" then some (.int low tlow) else if y = Str.ofString "parts" then some (.ref pl) else if y = Str.ofString "sack" then some (.ref sk) else List.lookup y [(Str.ofString "script", Value.ref w2)]) ∧
      News s₁.heap s₁.heap.objs.size h ((sk, sackO D spot2 t2 0) :: (tl2 ++ rest6)) ∧ GIn tl2 gv g ∧ (g = none → pL.isOth = false) ∧ (∀ b, g = some b → b.1 = low ∧ low - 1 ≤ b.2 ∧ b.2 ≤ low + 4) ∧ (∀ p ∈ tl2, p.1 ≠ sk) ∧ 0 ≤ spot2 ∧ spot2 ≤ 200) ?first ?tail
    case first =>
      k_steps
      refine unbrk ?_
      (try k_fold)
      refine' (grab_spec w _ _ mg mb (spot := spot + 1) (rest := rest6) hb6 hsk6 (ints_of f2) hxl (by omega) (by omega) (by decide) (by decide)) _ _ _ _ _ _ _ _ _ _ _ _ _ _ _ _ _ (by assumption) (by assumption) (by assumption) (by assumption) (by assumption) (by first | exact rfl | assumption) ?kd3 ?ku3 ?kr3
      case kd3 => first | omega | (dsimp only [ktrTop, Around.deeper, Around.mark, Around.in1]; omega) | exact Nat.le_of_ble_eq_true rfl
      case ku3 => first | omega | (dsimp only [ktrTop, Around.deeper, Around.mark, Around.in1]; omega) | exact Nat.le_of_ble_eq_true rfl
      intro r8 tr8 t8 h8 tk8 r80 r81 F8 N8
      k_steps
      · refine unbrk ?_
        (try k_fold)
        refine' (grab_spec w _ _ mg mb (spot := spot + 1 + 1) (rest := rest6) hb6 hsk6 (ints_of f2) hxl (by omega) (by omega) (by decide) (by decide)) _ _ _ _ _ _ _ _ _ _ _ _ _ _ _ _ _ (by assumption) (by assumption) (by assumption) (by assumption) (by assumption) (by first | exact rfl | assumption) ?kd4 ?ku4 ?kr4
        case kd4 => first | omega | (dsimp only [ktrTop, Around.deeper, Around.mark, Around.in1]; omega) | exact Nat.le_of_ble_eq_true rfl
        case ku4 => first | omega | (dsimp only [ktrTop, Around.deeper, Around.mark, Around.in1]; omega) | exact Nat.le_of_ble_eq_true rfl
        intro r9 tr9 t9 h9 tk9 r90 r91 F9 N9
        k_steps
        rename_i q10 _ l10 h10 F10 N10
        exact meet ⟨by trivial, h10, _, .ref q10, some (low, low + r9 - 1), [(q10, tupOf #[.int low tlow, .int (low + r9 - 1) _] 0)], spot + 1 + 1 + 1, t9, rfl, F10, news_up (pre := [_]) N10, ⟨q10, 0, _, _, rfl, .head _⟩, fun h => by (cases h), fun b hb => by (cases hb; exact ⟨rfl, by omega, by omega⟩), List.forall_mem_cons.mpr ⟨Nat.ne_of_gt l10.1, List.forall_mem_nil _⟩, by omega, by omega⟩
      · refine unbrk ?_
        (try k_fold)
        (with_reducible rename News _ _ _ _ => kN)
        refine sub_last kN (.tail _ hm6) hvL ?_
        (try k_fold)
        k_steps
        refine unbrk ?_
        (try k_fold)
        refine sub_tup (its := [vcL, _]) kN (.tail _ hmL) (by decide) (by decide) rfl ?_
        (try k_fold)
        k_steps
        refine cho_eq kN (hcL.mono fun p hp => .tail _ hp) (by walk_at "my room") ?_
        cases hO : pL.isOth with
        | true =>
          (try k_fold)
          k_steps
          refine unbrk ?_
          (try k_fold)
          refine' (grab_spec w _ _ mg mb (spot := spot + 1 + 1) (rest := rest6) hb6 hsk6 (ints_of f2) hxl (by omega) (by omega) (by decide) (by decide)) _ _ _ _ _ _ _ _ _ _ _ _ _ _ _ _ _ (by assumption) (by assumption) (by assumption) (by assumption) (by assumption) (by first | exact rfl | assumption) ?kd5 ?ku5 ?kr5
          case kd5 => first | omega | (dsimp only [ktrTop, Around.deeper, Around.mark, Around.in1]; omega) | exact Nat.le_of_ble_eq_true rfl
          case ku5 => first | omega | (dsimp only [ktrTop, Around.deeper, Around.mark, Around.in1]; omega) | exact Nat.le_of_ble_eq_true rfl
          intro r9 tr9 t9 h9 tk9 r90 r91 F9 N9
          k_steps
          rename_i q10 _ l10 h10 F10 N10
          exact meet ⟨by trivial, h10, _, .ref q10, some (low, low + r9 - 1), [(q10, tupOf #[.int low tlow, .int (low + r9 - 1) _] 0)], spot + 1 + 1 + 1, t9, rfl, F10, news_up (pre := [_]) N10, ⟨q10, 0, _, _, rfl, .head _⟩, fun h => by (cases h), fun b hb => by (cases hb; exact ⟨rfl, by omega, by omega⟩), List.forall_mem_cons.mpr ⟨Nat.ne_of_gt l10.1, List.forall_mem_nil _⟩, by omega, by omega⟩
        | false =>
          (try k_fold)
          k_steps
          (with_reducible rename Fr _ _ _ _ => kF9)
          (with_reducible rename News _ _ _ _ => kN9)
          exact meet ⟨by trivial, _, _, .none, none, [], spot + 1 + 1, t8, rfl, kF9, kN9, rfl, fun _ => rfl, fun b hb => by (cases hb), List.forall_mem_nil _, by omega, by omega⟩
    case tail =>
      intro s2 hR
      obtain ⟨h8, tk8, gv, g, tl2, spot2, t8, e8, F8, N8, hg, hgn, hgb, htl2, hs20, hs21⟩ := hR
      subst e8
      k_steps
      refine unbrk ?_
      (try k_fold)
      have hm8 : (pl, listOf refs.toArray np) ∈ (sk, sackO D spot2 t8 0) :: (tl2 ++ rest6) := .tail _ (List.mem_append_right _ hm6)
      have hin8 : ∀ p ∈ rest6, p ∈ (sk, sackO D spot2 t8 0) :: (tl2 ++ rest6) := fun p hp => .tail _ (List.mem_append_right _ hp)
      have hp8 : Paired (PtIn ((sk, sackO D spot2 t8 0) :: (tl2 ++ rest6))) refs ps := paired_mono (fun _ _ y => PtIn.mono y hin8) hp6
      have hg8 : GIn ((sk, sackO D spot2 t8 0) :: (tl2 ++ rest6)) gv g := hg.mono fun p hp => .tail _ (List.mem_append_left _ hp)
      refine' (told_spec w _ _ mg mb (low := low + 1) hm8 hp8 hok hg8) _ _ _ _ _ _ _ _ _ _ _ _ _ _ _ _ _ (by assumption) (by assumption) (by assumption) (by assumption) (by assumption) (by first | exact rfl | assumption) ?kd6 ?ku6 ?kr6
      case kd6 => first | omega | (dsimp only [ktrTop, Around.deeper, Around.mark, Around.in1]; omega) | exact Nat.le_of_ble_eq_true rfl
      case ku6 => first | omega | (dsimp only [ktrTop, Around.deeper, Around.mark, Around.in1]; omega) | exact Nat.le_of_ble_eq_true rfl
      intro bv tl3 h9 tk9 F9 N9 hb9
      k_steps
      refine unbrk ?_
      (try k_fold)
      have hin9 : ∀ p ∈ (sk, sackO D spot2 t8 0) :: (tl2 ++ rest6), p ∈ tl3 ++ (sk, sackO D spot2 t8 0) :: (tl2 ++ rest6) := fun p hp => List.mem_append_right _ hp
      have hp9 : Paired (PtIn (tl3 ++ (sk, sackO D spot2 t8 0) :: (tl2 ++ rest6))) refs ps := paired_mono (fun _ _ y => PtIn.mono y hin9) hp8
      have hg9 : GIn (tl3 ++ (sk, sackO D spot2 t8 0) :: (tl2 ++ rest6)) gv g := hg8.mono hin9
      refine' (agg_spec w _ _ mg mb (low := low + 1) (hin9 _ hm8) hp9 hok hg9) _ _ _ _ _ _ _ _ _ _ _ _ _ _ _ _ _ (by assumption) (by assumption) (by assumption) (by assumption) (by assumption) (by first | exact rfl | assumption) ?kd7 ?ku7 ?kr7
      case kd7 => first | omega | (dsimp only [ktrTop, Around.deeper, Around.mark, Around.in1]; omega) | exact Nat.le_of_ble_eq_true rfl
      case ku7 => first | omega | (dsimp only [ktrTop, Around.deeper, Around.mark, Around.in1]; omega) | exact Nat.le_of_ble_eq_true rfl
      intro av tl4 h10 tk10 F10 N10 ha10
      k_steps
      rw [agg_told hok] at ha10
      refine g_ne N10 ha10 (hb9.mono fun p hp => List.mem_append_right _ hp) (by walk_at "my room") ?_
      obtain ⟨led9, hled9⟩ : ∃ l, l = tl4 ++ (tl3 ++ (sk, sackO D spot2 t8 0) :: (tl2 ++ rest6)) := ⟨_, rfl⟩
      rw [← hled9] at N10
      have hinL : ∀ p ∈ (sk, sackO D spot2 t8 0) :: (tl2 ++ rest6), p ∈ led9 := fun p hp => hled9 ▸ List.mem_append_right _ (List.mem_append_right _ hp)
      have hgL : GIn led9 gv g := hg8.mono hinL
      have hbL : GIn led9 bv (toldB ps g (low + 1)) := hb9.mono fun p hp => hled9 ▸ List.mem_append_right _ hp
      have hmL9 := hinL _ hm8
      have hpL9 : Paired (PtIn led9) refs ps := paired_mono (fun _ _ y => PtIn.mono y hinL) hp8
      have hsk9 : (sk, sackO D spot2 t8 0) ∈ led9 := hinL _ (.head _)
      have hbk9 : (D, listOf ys.toArray k) ∈ led9 := hinL _ (.tail _ (List.mem_append_right _ hb6))
      clear hled9 hinL hg8 hb9 hg9 hp9 hp8 hm8 hin9 hin8 ha10
      have hbi : BrkIf := ⟨⟩
      (try k_fold)
      k_steps
      refine unbrk ?_
      (try k_fold)
      refine cut_next (R := fun s' => ∃ h tk wa wb nw tw uw, s' = { s₁ with heap := h, toks := tk } ∧ Fr s₁.heap s₁.heap.objs.size h (fun y => if y = Str.ofString "wide" then some (.ref wa) else if y = Str.ofString "bounds" then some bv else if y = Str.ofString "given" then some gv else if y = Str.ofString "low" then some (.int low tlow) else if y = Str.ofString "parts" then some (.ref pl) else if y = Str.ofString "sack" then some (.ref sk) else List.lookup y [(Str.ofString "script", Value.ref w2)]) ∧
        News s₁.heap s₁.heap.objs.size h led9 ∧ (wa, tupOf #[.int wb.1 tw, .int wb.2 uw] nw) ∈ led9 ∧ (g = some wb ∨ (g = none ∧ toldB ps g (low + 1) = some wb))) ?first2 ?tail2
      case first2 =>
        cases g with
        | none =>
          obtain rfl : gv = .none := hgL
          have ht := told_some hok (low := low + 1) (hlast.trans (hgn rfl))
          obtain ⟨wb, hwb, _⟩ := ht
          rw [hwb] at hbL
          obtain ⟨wa, nw, tw, uw, rfl, hwm⟩ := hbL
          k_steps
          (with_reducible rename Fr _ _ _ _ => kF9)
          (with_reducible rename News _ _ _ _ => kN9)
          exact meet ⟨by trivial, _, _, wa, wb, nw, tw, uw, rfl, kF9, kN9, hwm, .inr ⟨rfl, hwb⟩⟩
        | some wb =>
          obtain ⟨wa, nw, tw, uw, rfl, hwm⟩ := hgL
          k_steps
          (with_reducible rename Fr _ _ _ _ => kF9)
          (with_reducible rename News _ _ _ _ => kN9)
          exact meet ⟨by trivial, _, _, wa, wb, nw, tw, uw, rfl, kF9, kN9, hwm, .inl rfl⟩
      case tail2 =>
        intro s3 hR3
        obtain ⟨h11, tk11, wa, wb, nw, tw, uw, e11, F11, N11, hwm, hwg⟩ := hR3
        subst e11
        have hwb : -1 ≤ wb.1 ∧ wb.1 ≤ 20 ∧ wb.1 - 1 ≤ wb.2 ∧ wb.2 ≤ 30 := by
          rcases hwg with h | ⟨h, h'⟩
          · have := hgb wb h
            omega
          · subst h
            obtain ⟨wb', h1, h2⟩ := told_some hok (low := low + 1) (hlast.trans (hgn rfl))
            rw [h'] at h1
            cases h1
            have := h2 (by omega) (by omega)
            omega
        clear hwg hgL hbL
        k_steps
        refine unbrk ?_
        (try k_fold)
        refine' (places_spec w _ _ mg mb hwm hmL9 hpL9 hok (by omega) (by omega)) _ _ _ _ _ _ _ _ _ _ _ _ _ _ _ _ _ (by assumption) (by assumption) (by assumption) (by assumption) (by assumption) (by first | exact rfl | assumption) ?kd8 ?ku8 ?kr8
        case kd8 => first | omega | (dsimp only [ktrTop, Around.deeper, Around.mark, Around.in1]; omega) | exact Nat.le_of_ble_eq_true rfl
        case ku8 => first | omega | (dsimp only [ktrTop, Around.deeper, Around.mark, Around.in1]; omega) | exact Nat.le_of_ble_eq_true rfl
        intro dv tl5 h12 tk12 F12 N12 hdv
        have hbi : BrkIf := ⟨⟩
        k_steps
        refine unbrk ?_
        (try k_fold)
        refine cut_next (R := fun s' => ∃ h tk tlx, s' = { s₁ with heap := h, toks := tk } ∧ Fr s₁.heap s₁.heap.objs.size h (fun y => if y = Str.ofString "due" then some dv else if y = Str.ofString "wide" then some (.ref wa) else if y = Str.ofString "bounds" then some bv else if y = Str.ofString "given" then some gv else if y = Str.ofString "low" then some (.int low tlow) else if y = Str.ofString "parts" then some (.ref pl) else if y = Str.ofString "sack" then some (.ref sk) else List.lookup y [(Str.ofString "script", Value.ref w2)]) ∧ News s₁.heap s₁.heap.objs.size h (tlx ++ led9)) ?first3 ?tail3
        case first3 =>
          refine wpAny_If ?_
          k_steps
          refine unbrk ?_
          (try k_fold)
          refine' (lim0_spec w _ _ mg mb (t8 := 0) (led := tl5 ++ led9)) _ _ _ _ _ _ _ _ _ _ _ _ _ _ _ _ _ (by assumption) (by assumption) (by assumption) (by assumption) (by assumption) (by first | exact rfl | assumption) ?kdl ?kul ?krl
          case kdl => exact Nat.le_of_ble_eq_true rfl
          case kul => exact Nat.le_of_ble_eq_true rfl
          intro lx tl6 h13 tk13 hlim F13 N13
          k_steps
          refine unbrk ?_
          (try k_fold)
          have hin13 : ∀ p ∈ led9, p ∈ tl6 ++ (tl5 ++ led9) := fun p hp => List.mem_append_right _ (List.mem_append_right _ hp)
          have hp13 : Paired (PtIn (tl6 ++ (tl5 ++ led9))) refs ps := paired_mono (fun _ _ y => PtIn.mono y hin13) hpL9
          refine' (lspread_spec w _ _ mg mb (led := tl6 ++ (tl5 ++ led9)) (hin13 _ hwm) (hin13 _ hmL9) hp13 (parts_chok hok) hps10 hlim (by omega)) _ _ _ _ _ _ _ _ _ _ _ _ _ _ _ K0 (by assumption) (by assumption) (by assumption) (by assumption) (by assumption) (by assumption) (by first | exact rfl | assumption) ?kds ?kus ?krs
          case kds => exact Nat.le_of_ble_eq_true rfl
          case kus => exact Nat.le_of_ble_eq_true rfl
          intro sv tl7 h14 tk14 F14 N14 hsv
          rw [spread_places hok (by omega) (by omega)] at hsv
          cases hpl : placesO ps wb.1 wb.2 with
          | none =>
            rw [hpl] at hsv hdv
            obtain ⟨tc, rfl⟩ := hsv
            obtain rfl : dv = .none := hdv
            k_steps
            exact meet ⟨rfl, _, _, tl7 ++ (tl6 ++ tl5), rfl, F14, news_sub N14 (by
              intro p hp
              rcases List.mem_append.mp hp with hp | hp
              · rcases List.mem_append.mp hp with hp | hp
                · exact List.mem_append_left _ hp
                · rcases List.mem_append.mp hp with hp | hp
                  · exact List.mem_append_right _ (List.mem_append_left _ hp)
                  · exact List.mem_append_right _ (List.mem_append_right _ (List.mem_append_left _ hp))
              · exact List.mem_append_right _ (List.mem_append_right _ (List.mem_append_right _ hp)))⟩
          | some fs =>
            rw [hpl] at hsv hdv
            obtain ⟨a1, n1, vs1, rfl, hm1, hp1⟩ := hsv
            obtain ⟨a2, n2, vs2, rfl, hm2, hp2⟩ := hdv
            k_steps
            refine unbrk ?_
            (try k_fold)
            (with_reducible rename News _ _ _ _ => kN9)
            refine ints_ne kN9 hm1 (List.mem_append_right _ (List.mem_append_right _ hm2)) hp1 hp2 (by walk_at "my room") ?_
            rw [decide_eq_true rfl, show (!true) = false from rfl]
            (try k_fold)
            k_steps
            exact meet ⟨rfl, _, _, tl7 ++ (tl6 ++ tl5), rfl, F14, news_sub kN9 (by
              intro p hp
              rcases List.mem_append.mp hp with hp | hp
              · rcases List.mem_append.mp hp with hp | hp
                · exact List.mem_append_left _ hp
                · rcases List.mem_append.mp hp with hp | hp
                  · exact List.mem_append_right _ (List.mem_append_left _ hp)
                  · exact List.mem_append_right _ (List.mem_append_right _ (List.mem_append_left _ hp))
              · exact List.mem_append_right _ (List.mem_append_right _ (List.mem_append_right _ hp)))⟩
        case tail3 =>
          intro s4 hR4
          obtain ⟨h15, tk15, tlx, e15, F15, N15⟩ := hR4
          subst e15
          k_steps
          rename_i qt h16 F16 N16 l16
          refine unbrk ?_
          (try k_fold)
          refine' (lim8_spec w _ _ mg mb (led := (qt, tupOf #[Value.int 1 _, Value.int 9 _] 0) :: (tlx ++ led9))) _ _ _ _ _ _ _ _ _ _ _ _ _ _ _ _ _ (by assumption) F16 (by assumption) N16 (by assumption) (by first | exact rfl | assumption) ?kdm ?kum ?krm
          case kdm => exact Nat.le_of_ble_eq_true rfl
          case kum => exact Nat.le_of_ble_eq_true rfl
          intro lx tl6 h17 tk17 hlim F17 N17
          k_steps
          refine unbrk ?_
          (try k_fold)
          obtain ⟨led17, hled17⟩ : ∃ l, l = tl6 ++ (qt, tupOf #[Value.int 1 tk15, Value.int 9 (tk15 + 1)] 0) :: (tlx ++ led9) := ⟨_, rfl⟩
          have hin17 : ∀ p ∈ led9, p ∈ led17 := fun p hp => hled17 ▸ List.mem_append_right _ (.tail _ (List.mem_append_right _ hp))
          have hq17 : (qt, tupOf #[Value.int 1 tk15, Value.int 9 (tk15 + 1)] 0) ∈ led17 := hled17 ▸ List.mem_append_right _ (.head _)
          have hp17 : Paired (PtIn led17) refs ps := paired_mono (fun _ _ y => PtIn.mono y hin17) hpL9
          rw [← hled17] at N17 hlim
          refine' (lspread_spec w _ _ mg mb (led := led17) hq17 (hin17 _ hmL9) hp17 (parts_chok hok) hps10 hlim (by decide)) _ _ _ _ _ _ _ _ _ _ _ _ _ _ _ K0 F17 (by assumption) N17 (by assumption) (by assumption) (by assumption) (by first | exact rfl | assumption) ?kdt ?kut ?krt
          case kdt => exact Nat.le_of_ble_eq_true rfl
          case kut => exact Nat.le_of_ble_eq_true rfl
          intro sv tl7 h18 tk18 F18 N18 hsv
          rw [spread_storage] at hsv
          obtain ⟨tc, rfl⟩ := hsv
          k_steps
          refine unbrk ?_
          (try k_fold)
          (with_reducible rename Fr _ _ _ _ => kF9)
          (with_reducible rename News _ _ _ _ => kN9)
          have kN8 := news_sub (a := [(sk, sackO D spot2 t8 0), (D, listOf ys.toArray k)]) kN9 (List.forall_mem_cons.mpr ⟨List.mem_append_right _ (hin17 _ hsk9), List.forall_mem_cons.mpr ⟨List.mem_append_right _ (hin17 _ hbk9), List.forall_mem_nil _⟩⟩)
          refine' (right_spec w _ _ mg mb (rest := [(D, listOf ys.toArray k)]) (.head _) (List.forall_mem_cons.mpr ⟨Nat.ne_of_lt l5.1, List.forall_mem_nil _⟩) (ints_of f2) hxl hs20 (by omega)) _ _ _ _ _ _ _ _ _ _ _ _ _ _ _ _ _ K0 kF9 (by assumption) kN8 (by assumption) (by assumption) (by assumption) ktsDicts_nil (by first | exact rfl | assumption) ?kdr ?kur ?krr
          case kdr => exact Nat.le_of_ble_eq_true rfl
          case kur => exact Nat.le_of_ble_eq_true rfl
          intro h19 tk19 g19 TT19 F19
          replace F19 := turn_nil_fr TT19 F19
          k_steps)
end
end Mine
set_option maxRecDepth 100000 in
set_option maxHeartbeats 8000000 in
theorem PySem.Challenge.cw_pb0005_01_holds : PySem.Challenge.rw_pb0005_01.Holds := by
  exact Mine.law_holds
