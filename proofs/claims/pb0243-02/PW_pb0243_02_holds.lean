import PyProof.Rows.All
import Wide.All
import OpenK.AllK
import Wide.FinOn
import KE.KLcPair
import KE.KPairComp
import PyProof.Rows.TupAdd
import Lean
import PySem.Challenge.RW_pb0243_02
set_option Elab.async false
set_option linter.all false
set_option maxRecDepth 100000
set_option maxHeartbeats 8000000
set_option compiler.extract_closed false
section
open PySem PySem.W PyProof.Rows
set_option synthInstance.maxSize 1 in
open_top Mine.hd02 for PySem.Challenge.rw_pb0243_02
end
namespace Mine
open PySem PySem.W PyProof.Rows PySem.Calls PySem.Spec
local macro_rules | `(tactic| walk_at $s:str) => `(tactic| k_extra $s)
local macro_rules | `(tactic| k_ne) => `(tactic| k_extra "k_ne")
local macro_rules | `(tactic| k_all) => `(tactic| k_extra "k_all")
local macro_rules | `(tactic| k_updF) => `(tactic| k_extra "k_updF")
local macro_rules | `(tactic| ktr_call "hid" $t:term) => `(tactic| rename $t => h)
theorem w_DB1 : True := by
  k_with_none
  (k_with "eval Name" => (k_here; k_dflt (refine' nameX_L (by k_asm) (by rfl) ?_ (by rfl) (by rfl); k_whole)))
  (k_with "cj" => (first | assumption | exact And.left (by assumption) | exact And.left (And.right (by assumption)) | exact And.right (by assumption) | exact And.left (And.right (And.right (by assumption))) | exact And.right (And.right (by assumption)) | exact And.left (And.right (And.right (And.right (by assumption)))) | exact And.right (And.right (And.right (by assumption))) | exact And.left (And.right (And.right (And.right (And.right (by assumption))))) | exact And.right (And.right (And.right (And.right (by assumption)))) | exact And.left (And.right (And.right (And.right (And.right (And.right (by assumption)))))) | exact And.right (And.right (And.right (And.right (And.right (by assumption))))) | exact And.left (And.right (And.right (And.right (And.right (And.right (And.right (by assumption))))))) | exact And.right (And.right (And.right (And.right (And.right (And.right (by assumption)))))) | exact And.left (And.right (And.right (And.right (And.right (And.right (And.right (And.right (by assumption)))))))) | exact And.right (And.right (And.right (And.right (And.right (And.right (And.right (by assumption))))))) | exact And.left (And.right (And.right (And.right (And.right (And.right (And.right (And.right (And.right (by assumption))))))))) | exact And.right (And.right (And.right (And.right (And.right (And.right (And.right (And.right (by assumption)))))))) | exact And.left (And.right (And.right (And.right (And.right (And.right (And.right (And.right (And.right (And.right (by assumption)))))))))) | exact And.right (And.right (And.right (And.right (And.right (And.right (And.right (And.right (And.right (by assumption))))))))) | exact And.left (And.right (And.right (And.right (And.right (And.right (And.right (And.right (And.right (And.right (And.right (by assumption))))))))))) | exact And.right (And.right (And.right (And.right (And.right (And.right (And.right (And.right (And.right (And.right (by assumption)))))))))) | exact And.left (And.right (And.right (And.right (And.right (And.right (And.right (And.right (And.right (And.right (And.right (And.right (by assumption)))))))))))) | exact And.right (And.right (And.right (And.right (And.right (And.right (And.right (And.right (And.right (And.right (And.right (by assumption))))))))))) | exact And.left (And.right (And.right (And.right (And.right (And.right (And.right (And.right (And.right (And.right (And.right (And.right (And.right (by assumption))))))))))))) | exact And.right (And.right (And.right (And.right (And.right (And.right (And.right (And.right (And.right (And.right (And.right (And.right (by assumption)))))))))))) | exact And.left (And.right (And.right (And.right (And.right (And.right (And.right (And.right (And.right (And.right (And.right (And.right (And.right (And.right (by assumption)))))))))))))) | exact And.right (And.right (And.right (And.right (And.right (And.right (And.right (And.right (And.right (And.right (And.right (And.right (And.right (by assumption)))))))))))))))
  (k_with "cj2" => (first | k_extra "cj" | exact Nat.lt_succ_of_lt (by k_extra "cj") | exact Nat.lt_succ_of_lt (Nat.lt_succ_of_lt (by k_extra "cj")) | exact Nat.lt_succ_self _))
  (k_with "om" => (first | (with_reducible assumption) | (with_reducible exact Nat.ne_of_gt (by k_extra "cj")) | (with_reducible exact Nat.ne_of_lt (by k_extra "cj")) | (with_reducible k_extra "cj2") | (with_reducible exact Nat.ne_of_lt (by k_extra "cj2")) | (with_reducible exact Nat.ne_of_gt (by k_extra "cj2")) | (with_reducible exact Ne.symm (by k_extra "cj")) | omega))
  (k_with "k_ne" => (refine neN ?_; (try dsimp only); k_extra "om"))
  trivial
abbrev prog := PySem.Challenge.rw_pb0243_02.prog

/-- the end of a method's body: what the caller wants stands behind it -/
noncomputable def MEnd (g : Heap) (Q : Value → Shared → Prop) (v : Value) (s' : Shared) : Prop := ∃ L' m', Fr g L' s'.heap m' ∧ Q v s'

section
variable {prog : Program} {w : World} {A A₀ : Around} {E : Value → Shared → Prop} {s : Shared} {K : Frag} {L : Addr} {h₀ base : Heap} {m mg mb : Str → Option Value} {news : List (Addr × Obj)} {p : Program} {loose : List Str} {mean : ExcName → Option Value} {Q : Value → Shared → Prop}
theorem enterM {env : Env} {outer : List Env} {name qual : Str} {params : Arguments} {body : List Stmt} {scope : Scope} {dV kV doc pm cdv ct oc : Value} {an od : Option Addr} {osl : Array (Option Value)} {f : Addr} {args : List Value} {binds : List (Str × Value)}
    (B : Below A₀ base outer h₀) (F : Fr h₀ L s.heap m) (X₀ : K.In h₀) (N : News h₀ L s.heap news) (T : Top p loose mean mg mb h₀) (hA : A.frames = some (env :: outer)) (hf : env.frame = some L) (hke : env.scope.kind = .function)
    (ho : K.lookup f = some ⟨oc, od, .func (fnOf name qual params body scope dV kV doc pm an cdv ct), osl⟩) (hcd : codeIn K cdv qual = true) (hroom : A.depth < recursionLimit)
    (hbind : BindsTo s (fnOf name qual params body scope dV kV doc pm an cdv ct) ⟨args, []⟩ binds) (hloc : ∀ y ∈ binds, scope.names.lookup y.1 = some .local)
    (h : ∀ g L' h₁, Fr h₀ L g m → Fr g L' h₁ (fun y => binds.reverse.lookup y) → News g L' h₁ news → Below A base (env :: outer) g → K.In g → Top p loose mean mg mb g → GSub s.heap g (news.map (·.1)) →
      wpAny (model prog w) (A.deeper (envOf qual scope L' f cdv)) (execs body (envOf qual scope L' f cdv))
        (fun fl s' => MEnd g Q (match fl with | .ret v => v | _ => .none) s')
        (fun e s' => wpAny (model prog w) (A.deeper (envOf qual scope L' f cdv)) (leaving (envOf qual scope L' f cdv) e) (fun _ s'' => E e s'') (fun e' s'' => E e' s'') s')
        { s with heap := h₁, toks := s.toks + binds.length })
    (hco : scope.isCoroutine = false) (hgen : scope.isGenerator = false) (hk : scope.kind = .function)
    (hcell : ∀ x ∈ scope.names, x.2 ≠ .cell) : wpAny (model prog w) A (call (.ref f) args) Q E s := by
  refine wpAny_call (code_defG B F X₀ N T hA hf hke ho hcd hroom hbind hloc (fun g L' h₁ a1 a2 a3 a4 a5 a6 a7 => ?_) hco hgen hk hcell)
  refine wpAny_mono (h g L' h₁ a1 a2 a3 a4 a5 a6 a7) (fun fl s' z => ?_) fun _ _ z => z
  obtain ⟨L'', m'', F'', q⟩ := z
  exact ⟨L'', m'', [], F'', News.nil, fun _ _ => q⟩
end

theorem Fr.back {h₀ g h : Heap} {L L' : Addr} {m m' : Str → Option Value} (F : Fr h₀ L g m) (F' : Fr g L' h m') : Fr h₀ L h m := F.keeps F'.keep
theorem News.back {h₀ g h : Heap} {L L' : Addr} {m : Str → Option Value} {news : List (Addr × Obj)} (F : Fr h₀ L g m) (N : News g L' h news) : News h₀ L h news := fun p hp => by
  obtain ⟨oL, es, ep, hL, r⟩ := F.ns
  refine ⟨(N p hp).1, fun q => ?_, ?_⟩
  · have := (N p hp).2.2; rw [q, hL] at this; cases this
  · cases q : h₀.get? p.1 with
    | none => rfl
    | some o => have := (N p hp).2.2; rw [F.keep _ _ q] at this; cases this
theorem keep_back {h g h' : Heap} {L' : Addr} {m' : Str → Option Value} {adr : List Addr} (G : GSub h g adr) (F' : Fr g L' h' m') : GSub h h' adr := fun b o e n => F'.keep b o (G b o e n)


theorem w_DL1 : True := by
  k_with_none
  (k_with "eval Name" => (k_here; k_dflt (refine' nameX_L (by k_asm) (by rfl) ?_ (by rfl) (by rfl); k_whole)))
  (k_with "cj" => (first | assumption | exact And.left (by assumption) | exact And.left (And.right (by assumption)) | exact And.right (by assumption) | exact And.left (And.right (And.right (by assumption))) | exact And.right (And.right (by assumption)) | exact And.left (And.right (And.right (And.right (by assumption)))) | exact And.right (And.right (And.right (by assumption))) | exact And.left (And.right (And.right (And.right (And.right (by assumption))))) | exact And.right (And.right (And.right (And.right (by assumption)))) | exact And.left (And.right (And.right (And.right (And.right (And.right (by assumption)))))) | exact And.right (And.right (And.right (And.right (And.right (by assumption))))) | exact And.left (And.right (And.right (And.right (And.right (And.right (And.right (by assumption))))))) | exact And.right (And.right (And.right (And.right (And.right (And.right (by assumption)))))) | exact And.left (And.right (And.right (And.right (And.right (And.right (And.right (And.right (by assumption)))))))) | exact And.right (And.right (And.right (And.right (And.right (And.right (And.right (by assumption))))))) | exact And.left (And.right (And.right (And.right (And.right (And.right (And.right (And.right (And.right (by assumption))))))))) | exact And.right (And.right (And.right (And.right (And.right (And.right (And.right (And.right (by assumption)))))))) | exact And.left (And.right (And.right (And.right (And.right (And.right (And.right (And.right (And.right (And.right (by assumption)))))))))) | exact And.right (And.right (And.right (And.right (And.right (And.right (And.right (And.right (And.right (by assumption))))))))) | exact And.left (And.right (And.right (And.right (And.right (And.right (And.right (And.right (And.right (And.right (And.right (by assumption))))))))))) | exact And.right (And.right (And.right (And.right (And.right (And.right (And.right (And.right (And.right (And.right (by assumption)))))))))) | exact And.left (And.right (And.right (And.right (And.right (And.right (And.right (And.right (And.right (And.right (And.right (And.right (by assumption)))))))))))) | exact And.right (And.right (And.right (And.right (And.right (And.right (And.right (And.right (And.right (And.right (And.right (by assumption))))))))))) | exact And.left (And.right (And.right (And.right (And.right (And.right (And.right (And.right (And.right (And.right (And.right (And.right (And.right (by assumption))))))))))))) | exact And.right (And.right (And.right (And.right (And.right (And.right (And.right (And.right (And.right (And.right (And.right (And.right (by assumption)))))))))))) | exact And.left (And.right (And.right (And.right (And.right (And.right (And.right (And.right (And.right (And.right (And.right (And.right (And.right (And.right (by assumption)))))))))))))) | exact And.right (And.right (And.right (And.right (And.right (And.right (And.right (And.right (And.right (And.right (And.right (And.right (And.right (by assumption)))))))))))))))
  (k_with "cj2" => (first | k_extra "cj" | exact Nat.lt_succ_of_lt (by k_extra "cj") | exact Nat.lt_succ_of_lt (Nat.lt_succ_of_lt (by k_extra "cj")) | exact Nat.lt_succ_self _))
  (k_with "om" => (first | (with_reducible assumption) | (with_reducible exact Nat.ne_of_gt (by k_extra "cj")) | (with_reducible exact Nat.ne_of_lt (by k_extra "cj")) | (with_reducible k_extra "cj2") | (with_reducible exact Nat.ne_of_lt (by k_extra "cj2")) | (with_reducible exact Nat.ne_of_gt (by k_extra "cj2")) | (with_reducible exact Ne.symm (by k_extra "cj")) | omega))
  (k_with "k_ne" => (refine neN ?_; (try dsimp only); k_extra "om"))
  trivial

/-- the end of a turn: the iterator's entry stands, the rest of the ledger may have grown -/
noncomputable def TurnEnd (h₀ : Heap) (L : Addr) (it : Addr × Obj) (J : (Str → Option Value) → List (Addr × Obj) → Prop) (s₁ s₂ : Shared) : Prop :=
  ∃ h' tk m' news', s₂ = { s₁ with heap := h', toks := tk } ∧ Fr h₀ L h' m' ∧ News h₀ L h' (it :: news') ∧ (∀ p ∈ news', p.1 ≠ it.1) ∧ J m' news'
noncomputable def TurnPost (h₀ : Heap) (L : Addr) (it : Addr × Obj) (J : (Str → Option Value) → List (Addr × Obj) → Prop) (s₁ : Shared) (Q : Flow → Shared → Prop) (f : Flow) (s₂ : Shared) : Prop :=
  match f with
  | .ret v => Q (.ret v) s₂
  | .brk => Q .next s₂
  | _ => TurnEnd h₀ L it J s₁ s₂

section
variable {prog : Program} {w : World} {A : Around} {E : Value → Shared → Prop} {s : Shared} {env : Env} {h₀ : Heap} {x : Str} {body : List Stmt} {Q : Flow → Shared → Prop}

theorem loop_walk {I : Addr} {fp : List Addr} {n : Nat} {P : Nat → Value → Prop} {St : Nat → Heap → Prop} {m₀ : Str → Option Value} {news : List (Addr × Obj)} (J : Nat → (Str → Option Value) → List (Addr × Obj) → Prop)
    (W : Walks prog w A I fp [I] n P St) (hI : h₀.get? I = none) (hLf : env.locals ∉ fp) (hnw : ∀ p ∈ news, p.1 ≠ I) (hst : St 0 s.heap) (F : Fr h₀ env.locals s.heap m₀) (N : News h₀ env.locals s.heap news) (hj : J 0 m₀ news)
    (hit : ∀ i h, St i h → ∃ o, h.get? I = some o)
    (hown : ∀ i m nx h h' L (own : List (Addr × Obj)) it, J i m nx → (∀ p ∈ own, p.1 ∈ fp) → (∀ p ∈ own, h.get? p.1 = some p.2) → News h₀ L h own → News h₀ L h nx → h.get? I = some it → ∀ nx' j m', News h₀ L h' ((I, it) :: nx') → J j m' nx' → ∀ p ∈ own, h'.get? p.1 = some p.2)
    (turn : ∀ i v m₁ news₁ h tk itO, i < n → P i v → (∀ p ∈ news₁, p.1 ≠ I) → J i m₁ news₁ → Fr h₀ env.locals h (fun y => if y = x then some v else m₁ y) → News h₀ env.locals h ((I, itO) :: news₁) →
      wpAny (model prog w) A (execs body env) (TurnPost h₀ env.locals (I, itO) (J (i + 1)) { s with heap := h, toks := tk } Q) E { s with heap := h, toks := tk })
    (done : ∀ m₁ news₁ h tk, J n m₁ news₁ → Fr h₀ env.locals h m₁ → News h₀ env.locals h news₁ → Q .next { s with heap := h, toks := tk }) :
    LoopAtV prog w A h₀ env x body Q E (.ref I) s := by
  refine ⟨I, fp, [I], n, P, St, m₀, news, J, rfl, W, hLf, ?_, ?_, hst, F, N, hj, ?_, ?_⟩
  · intro b hb; rw [List.mem_singleton.mp hb]; exact hI
  · intro p hp hb; exact hnw p hp (List.mem_singleton.mp hb)
  · rintro i v m₁ news₁ s₁ own ⟨h, tk, rfl⟩ hin hP hJ hoff ho1 ho2 ho3 hs F₁ N₁
    have hne : ∀ p ∈ news₁, p.1 ≠ I := fun p hp e => hoff p hp (by rw [e]; exact List.mem_singleton.mpr rfl)
    obtain ⟨it, eit⟩ := hit _ _ hs
    have hIL : I ≠ env.locals := fun e => hLf (e ▸ W.sub I (List.mem_singleton.mpr rfl))
    have No : News h₀ env.locals h own := fun p hp => N₁ p (List.mem_append_left _ hp)
    have Nn : News h₀ env.locals h news₁ := fun p hp => N₁ p (List.mem_append_right _ hp)
    have Ni : News h₀ env.locals h ((I, it) :: news₁) := fun p hp => by
      rcases List.mem_cons.mp hp with rfl | hp
      · exact ⟨eit, hIL, hI⟩
      · exact Nn p hp
    refine wpAny_mono (turn i v m₁ news₁ h tk it hin hP hne hJ F₁ Ni) (fun f s₂ z => ?_) fun _ _ e => e
    have fin : TurnEnd h₀ env.locals (I, it) (J (i + 1)) { s with heap := h, toks := tk } s₂ → LoopStepU h₀ env.locals [I] own (J (i + 1)) { s with heap := h, toks := tk } .next s₂ := by
      rintro ⟨h', tk', m', news', e, F', N', hn, hj'⟩
      refine ⟨rfl, h', tk', m', news', e, F', fun p hp => ?_, fun p hp hb => hn p hp (List.mem_singleton.mp hb), hj'⟩
      rcases List.mem_append.mp hp with q | q
      · exact ⟨hown _ _ _ _ _ _ own it hJ ho1 ho2 No Nn eit _ _ _ N' hj' p q, (No p q).2⟩
      · exact N' p (List.mem_cons_of_mem _ q)
    cases f with
    | ret v => exact .ret z
    | brk => exact .brk z
    | next => exact .next (fin z)
    | cont => exact .cont (fin z)
  · intro h' tk m' news' F' N' _ hJ
    exact done m' news' h' tk hJ F' N'

/-- for x in range(n) -/
theorem loop_range {r : Addr} {b₀ : Int} {t₀ u₀ v₀ : Tok} {n : Nat} {m₀ : Str → Option Value} {news : List (Addr × Obj)} (J : Nat → (Str → Option Value) → List (Addr × Obj) → Prop)
    (hh : A.handled = none) (hr : IsRange s.heap r 0 b₀ 1 t₀ u₀ v₀) (hn : b₀ = (n : Int)) (hz : n ≤ 100000) (F : Fr h₀ env.locals s.heap m₀) (N : News h₀ env.locals s.heap news) (hj : J 0 m₀ news)
    (turn : ∀ (I : Addr) i t m₁ news₁ h tk itO, i < n → (∀ p ∈ news₁, p.1 ≠ I) → J i m₁ news₁ → Fr h₀ env.locals h (fun y => if y = x then some (.int (i : Int) t) else m₁ y) → News h₀ env.locals h ((I, itO) :: news₁) →
      wpAny (model prog w) A (execs body env) (TurnPost h₀ env.locals (I, itO) (J (i + 1)) { s with heap := h, toks := tk } Q) E { s with heap := h, toks := tk })
    (done : ∀ m₁ news₁ h tk, J n m₁ news₁ → Fr h₀ env.locals h m₁ → News h₀ env.locals h news₁ → Q .next { s with heap := h, toks := tk }) :
    wpAny (model prog w) A (pyIter (.ref r)) (fun it s₂ => LoopAtV prog w A h₀ env x body Q E it s₂) E s := by
  subst hn
  refine wpAny_pyIter_range hr (small_one (by omega) (by omega) (by omega) (by omega)) ?_
  have W : Walks prog w A s.heap.objs.size [s.heap.objs.size] [s.heap.objs.size] n (fun i v => ∃ t, v = .int (0 + i * 1) t)
      (fun i h => IsRangeIter h s.heap.objs.size (0 + (i : Nat) * 1) ((n : Int) - (i : Nat)) 1) := Walks.range hh _ 0 1 n
  refine loop_walk J W (next_is_new F) ?_ (fun p hp e => ?_) ?_ (F.push _) (fun p hp => ⟨Heap.get?_push_of_some _ (N p hp).1, (N p hp).2⟩) hj (fun i h st => ⟨_, st⟩) ?_ ?_ ?_
  · intro hm
    exact absurd F.ns.lt ((List.mem_singleton.mp hm) ▸ Nat.lt_irrefl _)
  · exact absurd (Heap.lt_size (N p hp).1) (by rw [e]; exact Nat.lt_irrefl _)
  · show IsRangeIter _ _ _ _ _
    rw [rangeSize_nat]
    simpa using Heap.get?_push_size _ rfl
  · intro i m nx h h' L own it _ h1 h2 _ _ e nx' j m' N' _ p hp
    have e1 := List.mem_singleton.mp (h1 p hp)
    have e2 := h2 p hp
    have e3 := (N' _ (.head _)).1
    rw [e1] at e2 ⊢
    rw [e] at e2
    cases e2
    exact e3
  · rintro i v m₁ news₁ h tk itO hi ⟨t, rfl⟩ hne hJ F₁ N₁
    have e1 : (0 : Int) + (i : Int) * 1 = (i : Int) := by omega
    rw [e1] at F₁
    exact turn _ i t m₁ news₁ h tk itO hi hne hJ F₁ N₁
  · exact done

/-- for x in a list of the ledger's -/
theorem loop_list {D : Addr} {lo : Obj} {k : Nat} {vs : List Value} {m₀ : Str → Option Value} {news : List (Addr × Obj)} (J : Nat → (Str → Option Value) → List (Addr × Obj) → Prop)
    (hh : A.handled = none) (elo : lo = listOf vs.toArray k) (hJD : ∀ i m nx, J i m nx → (D, lo) ∈ nx) (F : Fr h₀ env.locals s.heap m₀) (N : News h₀ env.locals s.heap news) (hj : J 0 m₀ news)
    (turn : ∀ (I : Addr) i v m₁ news₁ h tk itO, vs[i]? = some v → (∀ p ∈ news₁, p.1 ≠ I) → J i m₁ news₁ → Fr h₀ env.locals h (fun y => if y = x then some v else m₁ y) → News h₀ env.locals h ((I, itO) :: news₁) →
      wpAny (model prog w) A (execs body env) (TurnPost h₀ env.locals (I, itO) (J (i + 1)) { s with heap := h, toks := tk } Q) E { s with heap := h, toks := tk })
    (done : ∀ m₁ news₁ h tk, J vs.length m₁ news₁ → Fr h₀ env.locals h m₁ → News h₀ env.locals h news₁ → Q .next { s with heap := h, toks := tk }) :
    wpAny (model prog w) A (pyIter (.ref D)) (fun it s₂ => LoopAtV prog w A h₀ env x body Q E it s₂) E s := by
  subst elo
  have hD := N _ (hJD _ _ _ hj)
  have hls : s.heap.IsList D vs.toArray := ⟨_, hD.1, rfl, _, rfl⟩
  have hlt : D < s.heap.objs.size := Heap.lt_size hD.1
  have hne : D ≠ s.heap.objs.size := Nat.ne_of_lt hlt
  refine wpAny_pyIter_list hls ?_
  have W := Walks.list (prog := prog) (w := w) hh s.heap.objs.size D hne vs.toArray
  rw [show vs.toArray.size = vs.length from List.size_toArray] at W
  refine loop_walk J W (next_is_new F) ?_ (fun p hp e => ?_) ⟨⟨_, Heap.get?_push_size _ rfl, rfl, rfl⟩, hls.at fun o e => Heap.get?_push_of_some _ e⟩ (F.push _) (fun p hp => ⟨Heap.get?_push_of_some _ (N p hp).1, (N p hp).2⟩) hj (fun i h st => ⟨_, st.1.choose_spec.1⟩) ?_ ?_ ?_
  · intro hm
    rcases List.mem_cons.mp hm with e | hm
    · exact absurd F.ns.lt (e ▸ Nat.lt_irrefl _)
    · exact hD.2.1 (List.mem_singleton.mp hm).symm
  · exact absurd (Heap.lt_size (N p hp).1) (by rw [e]; exact Nat.lt_irrefl _)
  · intro i m nx h h' L own it hJ h1 h2 _ Nx e nx' j m' N' hJ' p hp
    have e2 := h2 p hp
    rcases List.mem_cons.mp (h1 p hp) with e1 | e1
    · have e3 := (N' _ (.head _)).1
      rw [e1] at e2 ⊢
      rw [e] at e2
      cases e2
      exact e3
    · have e1 := List.mem_singleton.mp e1
      rw [e1] at e2 ⊢
      have e4 := (Nx _ (hJD _ _ _ hJ)).1
      rw [← Option.some.inj (e4.symm.trans e2)]
      exact (N' _ (List.mem_cons_of_mem _ (hJD _ _ _ hJ'))).1
  · rintro i v m₁ news₁ h tk itO hi hP hne hJ F₁ N₁
    exact turn _ i v m₁ news₁ h tk itO (by simpa using hP) hne hJ F₁ N₁
  · exact done


/-- for x in range(a, b) -/
theorem loop_rangeA {r : Addr} {a₀ b₀ : Int} {t₀ u₀ v₀ : Tok} {n : Nat} {m₀ : Str → Option Value} {news : List (Addr × Obj)} (J : Nat → (Str → Option Value) → List (Addr × Obj) → Prop)
    (hh : A.handled = none) (hr : IsRange s.heap r a₀ b₀ 1 t₀ u₀ v₀) (ha : -1000 ≤ a₀ ∧ a₀ ≤ 1000) (hn : b₀ = a₀ + (n : Int)) (hz : n ≤ 100000) (F : Fr h₀ env.locals s.heap m₀) (N : News h₀ env.locals s.heap news) (hj : J 0 m₀ news)
    (turn : ∀ (I : Addr) i t m₁ news₁ h tk itO, i < n → (∀ p ∈ news₁, p.1 ≠ I) → J i m₁ news₁ → Fr h₀ env.locals h (fun y => if y = x then some (.int (a₀ + (i : Int)) t) else m₁ y) → News h₀ env.locals h ((I, itO) :: news₁) →
      wpAny (model prog w) A (execs body env) (TurnPost h₀ env.locals (I, itO) (J (i + 1)) { s with heap := h, toks := tk } Q) E { s with heap := h, toks := tk })
    (done : ∀ m₁ news₁ h tk, J n m₁ news₁ → Fr h₀ env.locals h m₁ → News h₀ env.locals h news₁ → Q .next { s with heap := h, toks := tk }) :
    wpAny (model prog w) A (pyIter (.ref r)) (fun it s₂ => LoopAtV prog w A h₀ env x body Q E it s₂) E s := by
  subst hn
  refine wpAny_pyIter_range hr (small_one (by omega) (by omega) (by omega) (by omega)) ?_
  have W : Walks prog w A s.heap.objs.size [s.heap.objs.size] [s.heap.objs.size] n (fun i v => ∃ t, v = .int (a₀ + i * 1) t)
      (fun i h => IsRangeIter h s.heap.objs.size (a₀ + (i : Nat) * 1) ((n : Int) - (i : Nat)) 1) := Walks.range hh _ a₀ 1 n
  refine loop_walk J W (next_is_new F) ?_ (fun p hp e => ?_) ?_ (F.push _) (fun p hp => ⟨Heap.get?_push_of_some _ (N p hp).1, (N p hp).2⟩) hj (fun i h st => ⟨_, st⟩) ?_ ?_ ?_
  · intro hm
    exact absurd F.ns.lt ((List.mem_singleton.mp hm) ▸ Nat.lt_irrefl _)
  · exact absurd (Heap.lt_size (N p hp).1) (by rw [e]; exact Nat.lt_irrefl _)
  · show IsRangeIter _ _ _ _ _
    rw [rangeSize_nat]
    have e : ((a₀ + (n : Int) - a₀).toNat : Int) = (n : Int) := by omega
    rw [e]
    simpa using Heap.get?_push_size _ rfl
  · intro i m nx h h' L own it _ h1 h2 _ _ e nx' j m' N' _ p hp
    have e1 := List.mem_singleton.mp (h1 p hp)
    have e2 := h2 p hp
    have e3 := (N' _ (.head _)).1
    rw [e1] at e2 ⊢
    rw [e] at e2
    cases e2
    exact e3
  · rintro i v m₁ news₁ h tk itO hi ⟨t, rfl⟩ hne hJ F₁ N₁
    have e1 : a₀ + (i : Int) * 1 = a₀ + (i : Int) := by omega
    rw [e1] at F₁
    exact turn _ i t m₁ news₁ h tk itO hi hne hJ F₁ N₁
  · exact done
/-- for x in a list of the base -/
theorem loop_listB {D : Addr} {k : Nat} {vs : List Value} {m₀ : Str → Option Value} {news : List (Addr × Obj)} (J : Nat → (Str → Option Value) → List (Addr × Obj) → Prop)
    (hh : A.handled = none) (eD : h₀.get? D = some (listOf vs.toArray k)) (F : Fr h₀ env.locals s.heap m₀) (N : News h₀ env.locals s.heap news) (hj : J 0 m₀ news)
    (turn : ∀ (I : Addr) i v m₁ news₁ h tk itO, vs[i]? = some v → (∀ p ∈ news₁, p.1 ≠ I) → J i m₁ news₁ → Fr h₀ env.locals h (fun y => if y = x then some v else m₁ y) → News h₀ env.locals h ((I, itO) :: news₁) →
      wpAny (model prog w) A (execs body env) (TurnPost h₀ env.locals (I, itO) (J (i + 1)) { s with heap := h, toks := tk } Q) E { s with heap := h, toks := tk })
    (done : ∀ m₁ news₁ h tk, J vs.length m₁ news₁ → Fr h₀ env.locals h m₁ → News h₀ env.locals h news₁ → Q .next { s with heap := h, toks := tk }) :
    wpAny (model prog w) A (pyIter (.ref D)) (fun it s₂ => LoopAtV prog w A h₀ env x body Q E it s₂) E s := by
  have eDs := F.keep _ _ eD
  have hls : s.heap.IsList D vs.toArray := ⟨_, eDs, rfl, _, rfl⟩
  have hlt : D < s.heap.objs.size := Heap.lt_size eDs
  have hltL : D < env.locals := Nat.lt_of_lt_of_le (Heap.lt_size eD) F.above
  have hne : D ≠ s.heap.objs.size := Nat.ne_of_lt hlt
  refine wpAny_pyIter_list hls ?_
  have W := Walks.list (prog := prog) (w := w) hh s.heap.objs.size D hne vs.toArray
  rw [show vs.toArray.size = vs.length from List.size_toArray] at W
  refine loop_walk J W (next_is_new F) ?_ (fun p hp e => ?_) ⟨⟨_, Heap.get?_push_size _ rfl, rfl, rfl⟩, hls.at fun o e => Heap.get?_push_of_some _ e⟩ (F.push _) (fun p hp => ⟨Heap.get?_push_of_some _ (N p hp).1, (N p hp).2⟩) hj (fun i h st => ⟨_, st.1.choose_spec.1⟩) ?_ ?_ ?_
  · intro hm
    rcases List.mem_cons.mp hm with e | hm
    · exact absurd F.ns.lt (e ▸ Nat.lt_irrefl _)
    · exact absurd hltL ((List.mem_singleton.mp hm) ▸ Nat.lt_irrefl _)
  · exact absurd (Heap.lt_size (N p hp).1) (by rw [e]; exact Nat.lt_irrefl _)
  · intro i m nx h h' L own it hJ h1 h2 No Nx e nx' j m' N' hJ' p hp
    have e2 := h2 p hp
    rcases List.mem_cons.mp (h1 p hp) with e1 | e1
    · have e3 := (N' _ (.head _)).1
      rw [e1] at e2 ⊢
      rw [e] at e2
      cases e2
      exact e3
    · have e1 := List.mem_singleton.mp e1
      have := (No p hp).2.2
      rw [e1, eD] at this
      cases this
  · rintro i v m₁ news₁ h tk itO hi hP hne hJ F₁ N₁
    exact turn _ i v m₁ news₁ h tk itO (by simpa using hP) hne hJ F₁ N₁
  · exact done

theorem same_map {x : Str} {m₁ m₀ : Str → Option Value} {v : Value} (hm : ∀ z, z ≠ x → m₁ z = m₀ z) : (fun z => if z = x then some v else m₁ z) = fun z => if z = x then some v else m₀ z := by
  funext z
  by_cases h1 : z = x
  · simp [h1]
  · simp only [if_neg h1]; exact hm z h1
theorem same_map2 {x : Str} {m₁ m₀ : Str → Option Value} (hm : ∀ z, z ≠ x → m₁ z = m₀ z) : (fun z => if z = x then m₁ z else m₀ z) = m₁ := by
  funext z
  by_cases h1 : z = x
  · simp [h1]
  · simp only [if_neg h1]; exact (hm z h1).symm
/-- the same, where a turn stores no name but the loop's own -/
theorem loop_range0 {r : Addr} {b₀ : Int} {t₀ u₀ v₀ : Tok} {n : Nat} {m₀ : Str → Option Value} {news : List (Addr × Obj)} (J : Nat → List (Addr × Obj) → Prop)
    (hh : A.handled = none) (hr : IsRange s.heap r 0 b₀ 1 t₀ u₀ v₀) (hn : b₀ = (n : Int)) (hz : n ≤ 100000) (F : Fr h₀ env.locals s.heap m₀) (N : News h₀ env.locals s.heap news) (hj : J 0 news)
    (turn : ∀ (I : Addr) i t news₁ h tk itO, i < n → (∀ p ∈ news₁, p.1 ≠ I) → J i news₁ → Fr h₀ env.locals h (fun y => if y = x then some (.int (i : Int) t) else m₀ y) → News h₀ env.locals h ((I, itO) :: news₁) →
      wpAny (model prog w) A (execs body env) (TurnPost h₀ env.locals (I, itO) (fun m' nx => (∀ z, z ≠ x → m' z = m₀ z) ∧ J (i + 1) nx) { s with heap := h, toks := tk } Q) E { s with heap := h, toks := tk })
    (done : ∀ (u : Str → Option Value) news₁ h tk, J n news₁ → Fr h₀ env.locals h (fun z => if z = x then u z else m₀ z) → News h₀ env.locals h news₁ → Q .next { s with heap := h, toks := tk }) :
    wpAny (model prog w) A (pyIter (.ref r)) (fun it s₂ => LoopAtV prog w A h₀ env x body Q E it s₂) E s := by
  refine loop_range (fun i m nx => (∀ z, z ≠ x → m z = m₀ z) ∧ J i nx) hh hr hn hz F N ⟨fun _ _ => rfl, hj⟩ ?_ ?_
  · rintro I i t m₁ news₁ h tk itO hi hne ⟨hm, hJ⟩ F₁ N₁
    rw [same_map hm] at F₁
    exact turn I i t news₁ h tk itO hi hne hJ F₁ N₁
  · rintro m₁ news₁ h tk ⟨hm, hJ⟩ F₁ N₁
    rw [← same_map2 hm] at F₁
    exact done m₁ news₁ h tk hJ F₁ N₁
theorem loop_list0 {D : Addr} {lo : Obj} {k : Nat} {vs : List Value} {m₀ : Str → Option Value} {news : List (Addr × Obj)} (J : Nat → List (Addr × Obj) → Prop)
    (hh : A.handled = none) (elo : lo = listOf vs.toArray k) (hJD : ∀ i nx, J i nx → (D, lo) ∈ nx) (F : Fr h₀ env.locals s.heap m₀) (N : News h₀ env.locals s.heap news) (hj : J 0 news)
    (turn : ∀ (I : Addr) i v news₁ h tk itO, vs[i]? = some v → (∀ p ∈ news₁, p.1 ≠ I) → J i news₁ → Fr h₀ env.locals h (fun y => if y = x then some v else m₀ y) → News h₀ env.locals h ((I, itO) :: news₁) →
      wpAny (model prog w) A (execs body env) (TurnPost h₀ env.locals (I, itO) (fun m' nx => (∀ z, z ≠ x → m' z = m₀ z) ∧ J (i + 1) nx) { s with heap := h, toks := tk } Q) E { s with heap := h, toks := tk })
    (done : ∀ (u : Str → Option Value) news₁ h tk, J vs.length news₁ → Fr h₀ env.locals h (fun z => if z = x then u z else m₀ z) → News h₀ env.locals h news₁ → Q .next { s with heap := h, toks := tk }) :
    wpAny (model prog w) A (pyIter (.ref D)) (fun it s₂ => LoopAtV prog w A h₀ env x body Q E it s₂) E s := by
  refine loop_list (fun i m nx => (∀ z, z ≠ x → m z = m₀ z) ∧ J i nx) hh elo (fun i m nx h => hJD i nx h.2) F N ⟨fun _ _ => rfl, hj⟩ ?_ ?_
  · rintro I i v m₁ news₁ h tk itO hi hne ⟨hm, hJ⟩ F₁ N₁
    rw [same_map hm] at F₁
    exact turn I i v news₁ h tk itO hi hne hJ F₁ N₁
  · rintro m₁ news₁ h tk ⟨hm, hJ⟩ F₁ N₁
    rw [← same_map2 hm] at F₁
    exact done m₁ news₁ h tk hJ F₁ N₁
end

theorem w_DB2 : True := by
  k_with_none
  (k_with "eval Name" => (k_here; k_dflt (refine' nameX_L (by k_asm) (by rfl) ?_ (by rfl) (by rfl); k_whole)))
  (k_with "cj" => (first | assumption | exact And.left (by assumption) | exact And.left (And.right (by assumption)) | exact And.right (by assumption) | exact And.left (And.right (And.right (by assumption))) | exact And.right (And.right (by assumption)) | exact And.left (And.right (And.right (And.right (by assumption)))) | exact And.right (And.right (And.right (by assumption))) | exact And.left (And.right (And.right (And.right (And.right (by assumption))))) | exact And.right (And.right (And.right (And.right (by assumption)))) | exact And.left (And.right (And.right (And.right (And.right (And.right (by assumption)))))) | exact And.right (And.right (And.right (And.right (And.right (by assumption))))) | exact And.left (And.right (And.right (And.right (And.right (And.right (And.right (by assumption))))))) | exact And.right (And.right (And.right (And.right (And.right (And.right (by assumption)))))) | exact And.left (And.right (And.right (And.right (And.right (And.right (And.right (And.right (by assumption)))))))) | exact And.right (And.right (And.right (And.right (And.right (And.right (And.right (by assumption))))))) | exact And.left (And.right (And.right (And.right (And.right (And.right (And.right (And.right (And.right (by assumption))))))))) | exact And.right (And.right (And.right (And.right (And.right (And.right (And.right (And.right (by assumption)))))))) | exact And.left (And.right (And.right (And.right (And.right (And.right (And.right (And.right (And.right (And.right (by assumption)))))))))) | exact And.right (And.right (And.right (And.right (And.right (And.right (And.right (And.right (And.right (by assumption))))))))) | exact And.left (And.right (And.right (And.right (And.right (And.right (And.right (And.right (And.right (And.right (And.right (by assumption))))))))))) | exact And.right (And.right (And.right (And.right (And.right (And.right (And.right (And.right (And.right (And.right (by assumption)))))))))) | exact And.left (And.right (And.right (And.right (And.right (And.right (And.right (And.right (And.right (And.right (And.right (And.right (by assumption)))))))))))) | exact And.right (And.right (And.right (And.right (And.right (And.right (And.right (And.right (And.right (And.right (And.right (by assumption))))))))))) | exact And.left (And.right (And.right (And.right (And.right (And.right (And.right (And.right (And.right (And.right (And.right (And.right (And.right (by assumption))))))))))))) | exact And.right (And.right (And.right (And.right (And.right (And.right (And.right (And.right (And.right (And.right (And.right (And.right (by assumption)))))))))))) | exact And.left (And.right (And.right (And.right (And.right (And.right (And.right (And.right (And.right (And.right (And.right (And.right (And.right (And.right (by assumption)))))))))))))) | exact And.right (And.right (And.right (And.right (And.right (And.right (And.right (And.right (And.right (And.right (And.right (And.right (And.right (by assumption)))))))))))))))
  (k_with "cj2" => (first | k_extra "cj" | exact Nat.lt_succ_of_lt (by k_extra "cj") | exact Nat.lt_succ_of_lt (Nat.lt_succ_of_lt (by k_extra "cj")) | exact Nat.lt_succ_self _))
  (k_with "om" => (first | (with_reducible assumption) | (with_reducible exact Nat.ne_of_gt (by k_extra "cj")) | (with_reducible exact Nat.ne_of_lt (by k_extra "cj")) | (with_reducible k_extra "cj2") | (with_reducible exact Nat.ne_of_lt (by k_extra "cj2")) | (with_reducible exact Nat.ne_of_gt (by k_extra "cj2")) | (with_reducible exact Ne.symm (by k_extra "cj")) | omega))
  (k_with "k_ne" => (refine neN ?_; (try dsimp only); k_extra "om"))
  trivial
abbrev Bytes := Array UInt8
abbrev ent (w : World) (n : String) (t : Tok) (v : Value) : DictEntry := ⟨PyData.keyHash w.params (Str.ofString n), .str (Str.ofString n) t, v⟩
abbrev tupOf (vs : List Value) : Obj := { cls := .type "tuple", data := .seq vs.toArray }

/-- the parts that do not turn -/
structure Ids where
  x : Addr
  dx : Addr
  cA : Addr
  sA : Addr
  kA : Addr
  acc : Str
  mode : Str
abbrev Ids.adr (I : Ids) : List Addr := [I.x, I.dx, I.cA, I.sA]
structure Ids.Ok (I : Ids) : Prop where
  n1 : @Ne Nat I.x I.dx
  n2 : @Ne Nat I.x I.cA
  n3 : @Ne Nat I.x I.sA
  n4 : @Ne Nat I.dx I.cA
  n5 : @Ne Nat I.dx I.sA
  n6 : @Ne Nat I.cA I.sA
structure Row where
  a : Addr
  v : List Int
structure St where
  cs : List (Bytes × Tok)
  rows : List Row
  next : Int
  which : Int
  nowhere : Bool
  last : Int
abbrev rv (r : Bytes × Tok) : Value := .bytes r.1 r.2
abbrev kd (w : World) (I : Ids) (tk : Nat → Tok) (mode : Value) (acc : Value) (nx wh at_ nw rl hi : Value) : List DictEntry :=
  [ent w "content" (tk 0) (.ref I.cA), ent w "mode" (tk 1) mode, ent w "access" (tk 2) acc, ent w "keys" (tk 3) (.ref I.kA), ent w "stamps" (tk 4) (.ref I.sA),
   ent w "next_stamp" (tk 5) nx, ent w "which" (tk 6) wh, ent w "at" (tk 7) at_, ent w "is_nowhere" (tk 8) nw, ent w "read_last" (tk 9) rl, ent w "highest" (tk 10) hi]

/-- the two keys: (0, 2, False), (2, 1, True) -/
noncomputable def HKeys (h : Heap) (kA : Addr) : Prop := ∃ a0 a1 n t0 t1 t2 t3, h.get? kA = some (listOf #[.ref a0, .ref a1] n) ∧
  h.get? a0 = some (tupOf [.int 0 t0, .int 2 t1, .bool false]) ∧ h.get? a1 = some (tupOf [.int 2 t2, .int 1 t3, .bool true])
noncomputable def HRow (h : Heap) (r : Row) : Prop := ∃ vs n, h.get? r.a = some (listOf vs.toArray n) ∧ IntsAre vs r.v
/-- what stands still -/
structure Fx (h : Heap) (I : Ids) (st : St) : Prop where
  keys : HKeys h I.kA
  rows : ∀ r ∈ st.rows, HRow h r
  size : ∀ r ∈ st.cs, r.1.size ≤ 1000
  len : st.cs.length ≤ 1000
  rlen : st.rows.length = st.cs.length
  rv3 : ∀ r ∈ st.rows, r.v.length = 2
  wh : st.which = 0 ∨ st.which = 1
noncomputable def AtIs (h : Heap) (v : Value) (b : Bytes) (i : Int) : Prop := ∃ tA t1 t2, v = .ref tA ∧ h.get? tA = some (tupOf [.bytes b t1, .int i t2])
theorem HKeys.keeps {h h' : Heap} {kA : Addr} (x : HKeys h kA) (k : ∀ b o, h.get? b = some o → h'.get? b = some o) : HKeys h' kA := by
  obtain ⟨a0, a1, n, t0, t1, t2, t3, e, e0, e1⟩ := x
  exact ⟨a0, a1, n, t0, t1, t2, t3, k _ _ e, k _ _ e0, k _ _ e1⟩
theorem HRow.keeps {h h' : Heap} {r : Row} (x : HRow h r) (k : ∀ b o, h.get? b = some o → h'.get? b = some o) : HRow h' r := by
  obtain ⟨vs, n, e, i⟩ := x
  exact ⟨vs, n, k _ _ e, i⟩
theorem AtIs.keeps {h h' : Heap} {v : Value} {b : Bytes} {i : Int} (x : AtIs h v b i) (k : ∀ b o, h.get? b = some o → h'.get? b = some o) : AtIs h' v b i := by
  obtain ⟨tA, t1, t2, e, e1⟩ := x
  exact ⟨tA, t1, t2, e, k _ _ e1⟩
theorem Fx.keeps {h h' : Heap} {I : Ids} {st : St} (x : Fx h I st) (k : ∀ b o, h.get? b = some o → h'.get? b = some o) : Fx h' I st :=
  ⟨x.keys.keeps k, fun r hr => (x.rows r hr).keeps k, x.size, x.len, x.rlen, x.rv3, x.wh⟩
/-- the four turning objects -/
abbrev led4 (w : World) (I : Ids) (st : St) (tk : Nat → Tok) (tm ta tn tw tl : Tok) (atv hi : Value) (nc ns : Nat) : List (Addr × Obj) :=
  [(I.x, instObj 208 I.dx), (I.dx, dictOf (kd w I tk (.str I.mode tm) (.str I.acc ta) (.int st.next tn) (.int st.which tw) atv (.bool st.nowhere) (.int st.last tl) hi) 11),
      (I.cA, listOf (st.cs.map fun r => Value.bytes r.1 r.2).toArray nc), (I.sA, listOf (st.rows.map fun r => Value.ref r.a).toArray ns)]
abbrev led4T (w : World) (I : Ids) (st : St) (tk : Nat → Tok) (tm ta tn tw tl : Tok) (atv hi : Value) (nc ns : Nat) (r : List (Addr × Obj)) : List (Addr × Obj) :=
  (I.x, instObj 208 I.dx) :: (I.dx, dictOf (kd w I tk (.str I.mode tm) (.str I.acc ta) (.int st.next tn) (.int st.which tw) atv (.bool st.nowhere) (.int st.last tl) hi) 11) ::
      (I.cA, listOf (st.cs.map fun r => Value.bytes r.1 r.2).toArray nc) :: (I.sA, listOf (st.rows.map fun r => Value.ref r.a).toArray ns) :: r
/-- the object stands in the heap, its turning parts are the ledger -/
noncomputable def KFo (w : World) (I : Ids) (st : St) (atv : Value) (led : List (Addr × Obj)) (h : Heap) : Prop :=
  ∃ (tk : Nat → Tok) (tm ta tn tw tl : Tok) (hi : Value) (nc ns : Nat), led = led4 w I st tk tm ta tn tw tl atv hi nc ns ∧ I.Ok ∧ Fx (hideAll h I.adr) I st

theorem gsub_hide {h g : Heap} {adr : List Addr} (G : GSub h g adr) : ∀ b o, (hideAll h adr).get? b = some o → g.get? b = some o := fun b o e =>
  G b o (of_hideAll _ e) fun q => by rw [hideAll_none _ q] at e; cases e
theorem gsub_hide2 {h g : Heap} {adr : List Addr} (G : GSub h g adr) : ∀ b o, (hideAll h adr).get? b = some o → (hideAll g adr).get? b = some o := fun b o e => by
  have n : b ∉ adr := fun q => by rw [hideAll_none _ q] at e; cases e
  exact hideAll_get _ (G b o (of_hideAll _ e) n) n
theorem gsub_of_keep {h h' : Heap} {adr : List Addr} (k : ∀ b o, h.get? b = some o → h'.get? b = some o) : GSub h h' adr := fun b o e _ => k b o e
theorem GSub.trans {h g k : Heap} {adr : List Addr} (a : GSub h g adr) (b : GSub g k adr) : GSub h k adr := fun x o e n => b x o (a x o e n) n
theorem KFo.keep {w : World} {I : Ids} {st : St} {atv : Value} {led : List (Addr × Obj)} {h h' : Heap} (x : KFo w I st atv led h) (G : GSub h h' I.adr) : KFo w I st atv led h' := by
  obtain ⟨tk, tm, ta, tn, tw, tl, hi, nc, ns, e, ok, fx⟩ := x
  exact ⟨tk, tm, ta, tn, tw, tl, hi, nc, ns, e, ok, fx.keeps (gsub_hide2 G)⟩
/-- facts of a frame's base stand in the heap off the turning objects -/
theorem base_hide {g h : Heap} {L : Addr} {m : Str → Option Value} {led : List (Addr × Obj)} {adr : List Addr} (F : Fr g L h m) (N : News g L h led) (ha : ∀ a ∈ adr, ∃ o, (a, o) ∈ led) :
    ∀ b o, g.get? b = some o → (hideAll h adr).get? b = some o := fun b o e =>
  hideAll_get _ (F.keep b o e) fun q => by
    obtain ⟨o', h'⟩ := ha b q
    have := (N _ h').2.2
    rw [e] at this; cases this
/-- all is kept: what lies off the ledger by the ground, the ledger itself by its entries -/
theorem keep_all {h g h' : Heap} {L L' : Addr} {h₀ : Heap} {m' : Str → Option Value} {led : List (Addr × Obj)} (N : News h₀ L h led) (G : GSub h g (led.map (·.1))) (F' : Fr g L' h' m') (N' : News g L' h' led) :
    ∀ b o, h.get? b = some o → h'.get? b = some o := fun b o e => by
  by_cases hb : b ∈ led.map (·.1)
  · obtain ⟨p, hp, rfl⟩ := List.mem_map.mp hb
    have h1 := (N p hp).1
    rw [e] at h1
    cases h1
    exact (N' p hp).1
  · exact F'.keep b o (G b o e hb)
theorem isListOf {h : Heap} {a : Addr} {vs : Array Value} {n : Nat} (e : h.get? a = some (listOf vs n)) : h.IsList a vs := ⟨_, e, rfl, _, rfl⟩
theorem isTupOf {h : Heap} {a : Addr} {vs : List Value} (e : h.get? a = some (tupOf vs)) : IsTup h a vs.toArray := ⟨_, e, rfl, _, rfl⟩

/-- a contract of a method that changes nothing that stands -/
structure MR (w : World) (I : Ids) (f : Addr) (d u : Nat) (args : List Value) (st : St) (atv : Value) (Pre : Heap → Prop) (Post : Heap → Value → Heap → Prop) : Prop where
  say : ∀ {p : Program} {loose : List Str} {mean : ExcName → Option Value} {mg mb : Str → Option Value} {dp un : Nat} {gd : Option (List Code)} {cn : Str} {cs : Scope} {a : Addr} {ccd : Value} {cl : List (Str × Addr)} {outer : List Env} {A₀ : Around} {base h₀ : Heap} {L : Addr} {m : Str → Option Value} {led : List (Addr × Obj)} {s : Shared} {Q E : Value → Shared → Prop},
    Below A₀ base outer h₀ → Fr h₀ L s.heap m → (hd02.heap_39 w.params).In h₀ → News h₀ L s.heap led → Top p loose mean mg mb h₀ → cs.kind = .function → dp + d < recursionLimit → un + u < cLine → KFo w I st atv led s.heap → Pre s.heap →
    (∀ v h' tk', Fr h₀ L h' m → (∀ b o, s.heap.get? b = some o → h'.get? b = some o) → Post s.heap v h' → Q v { s with heap := h', toks := tk' }) →
    wpAny (model prog w) (ktrTop dp un gd cn cs L a ccd cl outer) (call (.ref f) args) Q E s
/-- a contract of a method that changes the object -/
structure MC (w : World) (I : Ids) (f : Addr) (d u : Nat) (args : List Value) (st : St) (atv : Value) (Pre : Heap → Prop) (Post : Heap → Value → St → Value → Heap → Prop) : Prop where
  say : ∀ {p : Program} {loose : List Str} {mean : ExcName → Option Value} {mg mb : Str → Option Value} {dp un : Nat} {gd : Option (List Code)} {cn : Str} {cs : Scope} {a : Addr} {ccd : Value} {cl : List (Str × Addr)} {outer : List Env} {A₀ : Around} {base h₀ : Heap} {L : Addr} {m : Str → Option Value} {led : List (Addr × Obj)} {s : Shared} {Q E : Value → Shared → Prop},
    Below A₀ base outer h₀ → Fr h₀ L s.heap m → (hd02.heap_39 w.params).In h₀ → News h₀ L s.heap led → Top p loose mean mg mb h₀ → cs.kind = .function → dp + d < recursionLimit → un + u < cLine → KFo w I st atv led s.heap → Pre s.heap →
    (∀ v st' atv' h' tk' led', Fr h₀ L h' m → News h₀ L h' led' → GSub s.heap h' I.adr → KFo w I st' atv' led' h' → Post s.heap v st' atv' h' → Q v { s with heap := h', toks := tk' }) →
    wpAny (model prog w) (ktrTop dp un gd cn cs L a ccd cl outer) (call (.ref f) args) Q E s

section
variable {w : World} {I : Ids} {f : Addr} {d u : Nat} {args : List Value} {st : St} {atv : Value} {Pre : Heap → Prop} {Post : Heap → Value → Heap → Prop} {Post2 : Heap → Value → St → Value → Heap → Prop}
  {p : Program} {loose : List Str} {mean : ExcName → Option Value} {mg mb : Str → Option Value} {dp un : Nat} {gd : Option (List Code)} {cn : Str} {cs : Scope} {a : Addr} {ccd : Value} {cl : List (Str × Addr)} {outer : List Env} {A₀ : Around} {base h₀ : Heap} {L : Addr} {m : Str → Option Value} {news : List (Addr × Obj)} {s : Shared} {Q E : Value → Shared → Prop}
  {tk : Nat → Tok} {tm ta tn tw tl : Tok} {hi : Value} {nc ns : Nat}
theorem led_news (N : News h₀ L s.heap news) (h1 : (I.x, instObj 208 I.dx) ∈ news) (h2 : (I.dx, dictOf (kd w I tk (.str I.mode tm) (.str I.acc ta) (.int st.next tn) (.int st.which tw) atv (.bool st.nowhere) (.int st.last tl) hi) 11) ∈ news)
    (h3 : (I.cA, listOf (st.cs.map fun r => Value.bytes r.1 r.2).toArray nc) ∈ news) (h4 : (I.sA, listOf (st.rows.map fun r => Value.ref r.a).toArray ns) ∈ news) : News h₀ L s.heap (led4 w I st tk tm ta tn tw tl atv hi nc ns) := fun p hp => by
  rcases List.mem_cons.mp hp with rfl | hp
  · exact N _ h1
  rcases List.mem_cons.mp hp with rfl | hp
  · exact N _ h2
  rcases List.mem_cons.mp hp with rfl | hp
  · exact N _ h3
  rcases List.mem_cons.mp hp with rfl | hp
  · exact N _ h4
  cases hp
theorem adr_led : ∀ a ∈ I.adr, ∃ o, (a, o) ∈ led4 w I st tk tm ta tn tw tl atv hi nc ns := fun a ha => by
  rcases List.mem_cons.mp ha with rfl | ha
  · exact ⟨_, .head _⟩
  rcases List.mem_cons.mp ha with rfl | ha
  · exact ⟨_, .tail _ (.head _)⟩
  rcases List.mem_cons.mp ha with rfl | ha
  · exact ⟨_, .tail _ (.tail _ (.head _))⟩
  rcases List.mem_cons.mp ha with rfl | ha
  · exact ⟨_, .tail _ (.tail _ (.tail _ (.head _)))⟩
  cases ha
/-- a read-only method called from a method's frame -/
theorem MR.use (C : MR w I f d u args st atv Pre Post) (B : Below A₀ base outer h₀) (F : Fr h₀ L s.heap m) (X : (hd02.heap_39 w.params).In h₀) (N : News h₀ L s.heap news) (T : Top p loose mean mg mb h₀) (hk : cs.kind = .function) (ok : I.Ok) (fx : Fx h₀ I st)
    (h1 : (I.x, instObj 208 I.dx) ∈ news) (h2 : (I.dx, dictOf (kd w I tk (.str I.mode tm) (.str I.acc ta) (.int st.next tn) (.int st.which tw) atv (.bool st.nowhere) (.int st.last tl) hi) 11) ∈ news)
    (h3 : (I.cA, listOf (st.cs.map fun r => Value.bytes r.1 r.2).toArray nc) ∈ news) (h4 : (I.sA, listOf (st.rows.map fun r => Value.ref r.a).toArray ns) ∈ news)
    (hd : dp + d < recursionLimit) (hu : un + u < cLine) (pre : Pre s.heap)
    (ret : ∀ v h' tk', Fr h₀ L h' m → News h₀ L h' news → (∀ b o, s.heap.get? b = some o → h'.get? b = some o) → Post s.heap v h' → Q v { s with heap := h', toks := tk' }) :
    wpAny (model prog w) (ktrTop dp un gd cn cs L a ccd cl outer) (call (.ref f) args) Q E s := by
  have N4 := led_news N h1 h2 h3 h4
  exact C.say B F X N4 T hk hd hu ⟨tk, tm, ta, tn, tw, tl, hi, nc, ns, rfl, ok, fx.keeps (base_hide F N4 adr_led)⟩ pre fun v h' tk' F' k po => ret v h' tk' F' (N.grown k) k po
end

noncomputable def worthB (which : Int) (b : Bytes) : Bytes := KBy.picked b (some (2 * which)) (some (which + 2))

-- entering a method
theorem w_DB2_0 : True := by
  (k_with "m_enter" => (((have _ : PySem.Challenge.rw_pb0243_02 = PySem.Challenge.rw_pb0243_02 → hd02.heap_39 = hd02.heap_39 := by k_fill; exact fun _ => rfl); k_dflt (refine' enterM (binds := by k_extra "binds") (by k_asm) (by k_asm) (by k_asm) (by k_asm) (by k_asm) (by exact rfl) (by exact rfl) (by assumption) (by k_is) (by k_is) (by ktr_room) (by exact BindsTo.of_eq rfl) (by exact locs rfl) ?_ (by exact rfl) (by exact rfl) (by exact rfl) (by decide); k_whole; intro _ _ _ _ _ _ _ _ _ _; (try dsimp only [List.reverse_cons, List.reverse_nil, List.nil_append, List.cons_append, List.length_cons, List.length_nil]); (try k_fold)))))
  (k_with "m_end" => (((try dsimp only); (try k_unfold); (try dsimp only))))
  (k_with "subscriptTail" => ((k_here; (with_reducible show wpAny _ _ (subscriptTail _ (Expr.Slice _ _ none _) (Value.bytes _ _) (Value.ref _)) _ _ _); (with_reducible rename Fr _ _ _ _ => yF); (with_reducible rename News _ _ _ _ => yN); (refine KBc.slice_K (s := ⟨_, _, _, _, _⟩) yF yN rfl (by constructor) (by constructor) (by rw [KBw.ints_length]; omega) ?_); intro _ _ _ _ _ _; (try k_sweep))))
  trivial
theorem m_worth {w : World} {I : Ids} {st : St} {atv : Value} {b : Bytes} {t tw : Tok} {wh : Int} (hw : wh = 0 ∨ wh = 1) (hb : b.size ≤ 1000) :
    MR w I 89 3 30 [.ref I.x, .bytes b t, .int wh tw] st atv (fun _ => True) (fun _ v _ => ∃ t', v = .bytes (worthB wh b) t') := by
  constructor
  intro p loose mean mg mb dp un gd cn cs a ccd cl outer A₀ base h₀ L m led s Q E B F X N T hk hd hu KF _ hret
  obtain ⟨tk, tm, ta, tn, twh, tl, hi, nc, ns, rfl, ok, fx⟩ := id KF
  (k_with "binds" => exact ([(Str.ofString "self", .ref I.x), (Str.ofString "record", .bytes b t), (Str.ofString "which", .int wh tw)]))
  k_extra "m_enter"
  rename_i g L₁ h₁ FG F₁ N₁ B₁ X₁ T₁ G
  have fxg := fx.keeps (gsub_hide G)
  obtain ⟨a0, a1, nk, u0, u1, u2, u3, e, e0, e1⟩ := fxg.keys
  have lk := isListOf e
  have lt0 := isTupOf e0
  have lt1 := isTupOf e1
  rcases hw with rfl | rfl
  all_goals
    k_steps
    k_extra "m_end"
    with_reducible rename Fr _ _ _ _ => mF
    with_reducible rename News _ _ _ _ => mN
    exact ⟨_, _, mF, hret _ _ _ (Fr.back FG mF) (keep_all N G mF mN) ⟨_, rfl⟩⟩

theorem w_DB3 : True := by
  k_with_none
  (k_with "eval Name" => (k_here; k_dflt (refine' nameX_L (by k_asm) (by rfl) ?_ (by rfl) (by rfl); k_whole)))
  (k_with "cj" => (first | assumption | exact And.left (by assumption) | exact And.left (And.right (by assumption)) | exact And.right (by assumption) | exact And.left (And.right (And.right (by assumption))) | exact And.right (And.right (by assumption)) | exact And.left (And.right (And.right (And.right (by assumption)))) | exact And.right (And.right (And.right (by assumption))) | exact And.left (And.right (And.right (And.right (And.right (by assumption))))) | exact And.right (And.right (And.right (And.right (by assumption)))) | exact And.left (And.right (And.right (And.right (And.right (And.right (by assumption)))))) | exact And.right (And.right (And.right (And.right (And.right (by assumption))))) | exact And.left (And.right (And.right (And.right (And.right (And.right (And.right (by assumption))))))) | exact And.right (And.right (And.right (And.right (And.right (And.right (by assumption)))))) | exact And.left (And.right (And.right (And.right (And.right (And.right (And.right (And.right (by assumption)))))))) | exact And.right (And.right (And.right (And.right (And.right (And.right (And.right (by assumption))))))) | exact And.left (And.right (And.right (And.right (And.right (And.right (And.right (And.right (And.right (by assumption))))))))) | exact And.right (And.right (And.right (And.right (And.right (And.right (And.right (And.right (by assumption)))))))) | exact And.left (And.right (And.right (And.right (And.right (And.right (And.right (And.right (And.right (And.right (by assumption)))))))))) | exact And.right (And.right (And.right (And.right (And.right (And.right (And.right (And.right (And.right (by assumption))))))))) | exact And.left (And.right (And.right (And.right (And.right (And.right (And.right (And.right (And.right (And.right (And.right (by assumption))))))))))) | exact And.right (And.right (And.right (And.right (And.right (And.right (And.right (And.right (And.right (And.right (by assumption)))))))))) | exact And.left (And.right (And.right (And.right (And.right (And.right (And.right (And.right (And.right (And.right (And.right (And.right (by assumption)))))))))))) | exact And.right (And.right (And.right (And.right (And.right (And.right (And.right (And.right (And.right (And.right (And.right (by assumption))))))))))) | exact And.left (And.right (And.right (And.right (And.right (And.right (And.right (And.right (And.right (And.right (And.right (And.right (And.right (by assumption))))))))))))) | exact And.right (And.right (And.right (And.right (And.right (And.right (And.right (And.right (And.right (And.right (And.right (And.right (by assumption)))))))))))) | exact And.left (And.right (And.right (And.right (And.right (And.right (And.right (And.right (And.right (And.right (And.right (And.right (And.right (And.right (by assumption)))))))))))))) | exact And.right (And.right (And.right (And.right (And.right (And.right (And.right (And.right (And.right (And.right (And.right (And.right (And.right (by assumption)))))))))))))))
  (k_with "cj2" => (first | k_extra "cj" | exact Nat.lt_succ_of_lt (by k_extra "cj") | exact Nat.lt_succ_of_lt (Nat.lt_succ_of_lt (by k_extra "cj")) | exact Nat.lt_succ_self _))
  (k_with "om" => (first | (with_reducible assumption) | (with_reducible exact Nat.ne_of_gt (by k_extra "cj")) | (with_reducible exact Nat.ne_of_lt (by k_extra "cj")) | (with_reducible k_extra "cj2") | (with_reducible exact Nat.ne_of_lt (by k_extra "cj2")) | (with_reducible exact Nat.ne_of_gt (by k_extra "cj2")) | (with_reducible exact Ne.symm (by k_extra "cj")) | omega))
  (k_with "k_ne" => (refine neN ?_; (try dsimp only); k_extra "om"))
  trivial
/-- what the walk is to leave alone -/
noncomputable def Hold (P : Prop) : Prop := P
theorem hold_in {P : Prop} (h : Hold P) : P := h
/-- a mark: the walk halts at the next loop -/
structure StopFor : Prop where
theorem hold_stop {P : Prop} (_ : StopFor) (h : Hold P) : P := h
structure LoopInv (J : Nat → List (Addr × Obj) → Prop) : Prop where
section
variable {prog : Program} {w : World} {A : Around} {E : Value → Shared → Prop} {s : Shared} {env : Env} {h₀ : Heap} {x : Str} {body : List Stmt} {L : Addr} {news : List (Addr × Obj)} {α : Type} {f : α → Value} {xs : List α} {l : Addr} {n : Nat}
theorem m_len {Q : Value → Shared → Prop} (N : News h₀ L s.heap news) (hm : (l, listOf (xs.map f).toArray n) ∈ news) (hz : xs.length ≤ 100000) (h : Q (.int (xs.length : Nat) (s.toks + 1)) { s with toks := s.toks + 1 + 1 }) :
    wpAny (model prog w) A (call (.builtin "len") [.ref l]) Q E s := by
  have e : (xs.map f).toArray.size = xs.length := by simp
  refine Calls.call_len_list (isListOf (N _ hm).1) (by rw [e]; omega) ?_
  rw [e]; exact h
theorem m_item {Q : Value → Shared → Prop} {value slice : Expr} {i : Nat} {u : Tok} {r : α} (N : News h₀ L s.heap news) (hm : (l, listOf (xs.map f).toArray n) ∈ news) (hx : xs[i]? = some r) (hz : xs.length ≤ 100000) (h : Q (f r) s)
    (hs : subscripted slice false (.ref l) (.int (i : Int) u) = operate [.ref l, .int (i : Int) u] (getItem (.ref l) (.int (i : Int) u)) := by with_unfolding_all rfl) :
    wpAny (model prog w) A (subscriptTail value slice (.ref l) (.int (i : Int) u)) Q E s := by
  have hi : i < xs.length := by
    rcases Nat.lt_or_ge i xs.length with q | q
    · exact q
    · rw [List.getElem?_eq_none q] at hx; cases hx
  have hl := isListOf (N _ hm).1
  refine tail_any hl.typeIs slot_list_getitem.lookup (wpAny_getItem_list hl (by omega) (by omega) ?_ h) hs
  simp [hx]
theorem m_append {D : Addr} {m : Str → Option Value} {news' : List (Addr × Obj)} {x : Value} {Q : Value → Shared → Prop} (F : Fr h₀ L s.heap m) (N : News h₀ L s.heap news) (U : Upd D (listOf (xs.map f).toArray n) (listOf ((xs.map f).toArray.push x) (n + 1)) news news') (hz : xs.length ≤ 100000)
    (h : ∀ h', Fr h₀ L h' m → News h₀ L h' news' → Q .none { s with heap := h' }) : wpAny (model prog w) A (call (.builtin "list.append") [.ref D, x]) Q E s :=
  append_K F N U h (by rw [List.size_toArray, List.length_map, sizeLine_eq]; omega)
theorem loop_rangeM {r : Addr} {b₀ : Int} {t₀ u₀ v₀ : Tok} {k : Nat} {m₀ : Str → Option Value} {J : Nat → List (Addr × Obj) → Prop} {Q : Flow → Shared → Prop} (_hJ : LoopInv J) (hL : env.locals = L)
    (hh : A.handled = none) (hr : IsRange s.heap r 0 b₀ 1 t₀ u₀ v₀) (hn : b₀ = (k : Int)) (F : Fr h₀ L s.heap m₀) (N : News h₀ L s.heap news) (hz : k ≤ 100000) (hj : Hold (J 0 news))
    (turn : Hold (∀ (I : Addr) i t news₁ h tk itO, i < k → (∀ p ∈ news₁, p.1 ≠ I) → J i news₁ → Fr h₀ L h (fun y => if y = x then some (.int (i : Int) t) else m₀ y) → News h₀ L h ((I, itO) :: news₁) →
      wpAny (model prog w) A (execs body env) (TurnPost h₀ L (I, itO) (fun m' nx => (∀ z, z ≠ x → m' z = m₀ z) ∧ J (i + 1) nx) { s with heap := h, toks := tk } Q) E { s with heap := h, toks := tk }))
    (done : Hold (∀ (u : Str → Option Value) news₁ h tk, J k news₁ → Fr h₀ L h (fun z => if z = x then u z else m₀ z) → News h₀ L h news₁ → Q .next { s with heap := h, toks := tk })) :
    wpAny (model prog w) A (pyIter (.ref r)) (fun it s₂ => LoopAtV prog w A h₀ env x body Q E it s₂) E s := by
  subst hL
  exact loop_range0 J hh hr hn hz F N hj turn done
end

theorem w_DB4 : True := by
  k_with_none
  (k_with "eval Name" => (k_here; k_dflt (refine' nameX_L (by k_asm) (by rfl) ?_ (by rfl) (by rfl); k_whole)))
  (k_with "cj" => (first | assumption | exact And.left (by assumption) | exact And.left (And.right (by assumption)) | exact And.right (by assumption) | exact And.left (And.right (And.right (by assumption))) | exact And.right (And.right (by assumption)) | exact And.left (And.right (And.right (And.right (by assumption)))) | exact And.right (And.right (And.right (by assumption))) | exact And.left (And.right (And.right (And.right (And.right (by assumption))))) | exact And.right (And.right (And.right (And.right (by assumption)))) | exact And.left (And.right (And.right (And.right (And.right (And.right (by assumption)))))) | exact And.right (And.right (And.right (And.right (And.right (by assumption))))) | exact And.left (And.right (And.right (And.right (And.right (And.right (And.right (by assumption))))))) | exact And.right (And.right (And.right (And.right (And.right (And.right (by assumption)))))) | exact And.left (And.right (And.right (And.right (And.right (And.right (And.right (And.right (by assumption)))))))) | exact And.right (And.right (And.right (And.right (And.right (And.right (And.right (by assumption))))))) | exact And.left (And.right (And.right (And.right (And.right (And.right (And.right (And.right (And.right (by assumption))))))))) | exact And.right (And.right (And.right (And.right (And.right (And.right (And.right (And.right (by assumption)))))))) | exact And.left (And.right (And.right (And.right (And.right (And.right (And.right (And.right (And.right (And.right (by assumption)))))))))) | exact And.right (And.right (And.right (And.right (And.right (And.right (And.right (And.right (And.right (by assumption))))))))) | exact And.left (And.right (And.right (And.right (And.right (And.right (And.right (And.right (And.right (And.right (And.right (by assumption))))))))))) | exact And.right (And.right (And.right (And.right (And.right (And.right (And.right (And.right (And.right (And.right (by assumption)))))))))) | exact And.left (And.right (And.right (And.right (And.right (And.right (And.right (And.right (And.right (And.right (And.right (And.right (by assumption)))))))))))) | exact And.right (And.right (And.right (And.right (And.right (And.right (And.right (And.right (And.right (And.right (And.right (by assumption))))))))))) | exact And.left (And.right (And.right (And.right (And.right (And.right (And.right (And.right (And.right (And.right (And.right (And.right (And.right (by assumption))))))))))))) | exact And.right (And.right (And.right (And.right (And.right (And.right (And.right (And.right (And.right (And.right (And.right (And.right (by assumption)))))))))))) | exact And.left (And.right (And.right (And.right (And.right (And.right (And.right (And.right (And.right (And.right (And.right (And.right (And.right (And.right (by assumption)))))))))))))) | exact And.right (And.right (And.right (And.right (And.right (And.right (And.right (And.right (And.right (And.right (And.right (And.right (And.right (by assumption)))))))))))))))
  (k_with "cj2" => (first | k_extra "cj" | exact Nat.lt_succ_of_lt (by k_extra "cj") | exact Nat.lt_succ_of_lt (Nat.lt_succ_of_lt (by k_extra "cj")) | exact Nat.lt_succ_self _))
  (k_with "om" => (first | (with_reducible assumption) | (with_reducible exact Nat.ne_of_gt (by k_extra "cj")) | (with_reducible exact Nat.ne_of_lt (by k_extra "cj")) | (with_reducible k_extra "cj2") | (with_reducible exact Nat.ne_of_lt (by k_extra "cj2")) | (with_reducible exact Nat.ne_of_gt (by k_extra "cj2")) | (with_reducible exact Ne.symm (by k_extra "cj")) | omega))
  (k_with "k_ne" => (refine neN ?_; (try dsimp only); k_extra "om"))
  trivial
theorem cut_at : ∀ {l : List Value} {k : Nat} {y : Value}, l[k]? = some y → kl_cut l k = some (l.take k, y, l.drop (k + 1))
  | [], _, _, h => by simp at h
  | x :: r, 0, y, h => by
    simp at h; subst h; rfl
  | x :: r, k + 1, y, h => by
    have h' : r[k]? = some y := by simpa using h
    unfold kl_cut
    rw [cut_at h']
    rfl
section
variable {prog : Program} {w : World} {A : Around} {E : Value → Shared → Prop} {s : Shared} {h₀ : Heap} {L D : Addr} {m : Str → Option Value} {news news' : List (Addr × Obj)} {α : Type} {f : α → Value} {xs : List α} {n : Nat}
theorem m_popAt {i : Nat} {u : Tok} {r : α} {Q : Value → Shared → Prop} (F : Fr h₀ L s.heap m) (N : News h₀ L s.heap news) (U : Upd D (listOf (xs.map f).toArray n) (listOf ((xs.eraseIdx i).map f).toArray (n + 1)) news news') (hx : xs[i]? = some r) (hz : xs.length ≤ 100000)
    (h : ∀ h', Fr h₀ L h' m → News h₀ L h' news' → Q (f r) { s with heap := h' }) : wpAny (model prog w) A (call (.builtin "list.pop") [.ref D, .int (i : Int) u]) Q E s := by
  have hi : i < xs.length := by
    rcases Nat.lt_or_ge i xs.length with q | q
    · exact q
    · rw [List.getElem?_eq_none q] at hx; cases hx
  have e : ((xs.eraseIdx i).map f).toArray = ((xs.map f).take i ++ (xs.map f).drop (i + 1)).toArray := by
    rw [List.eraseIdx_eq_take_drop_succ, List.map_append, List.map_take, List.map_drop]
  rw [e] at U
  have hy : (xs.map f).toArray.toList[i]? = some (f r) := by simp [hx]
  refine kl_popAt (k := i) F N ?_ ?_ (cut_at hy) (by simpa using U) ?_ h
  · simp only [Builtin.List.listFitsIndex, Bool.and_eq_true, decide_eq_true_eq]; omega
  · unfold seqIndex?
    have h1 : ¬ (i : Int) < 0 := by omega
    have h2 : (xs.map f).toArray.size = xs.length := by simp
    rw [h2]
    simp [h1, hi]
  · simp only [List.length_map, sizeLine_eq]; omega
end

section
open PySem PySem.W PyProof.Rows PyProof.Rows.LCg PySem.Calls PySem.Spec PySem.SeqAt
theorem w_DB5 : True := by
  k_with_none
  (k_with "eval Name" => (k_here; k_dflt (refine' nameX_L (by k_asm) (by rfl) ?_ (by rfl) (by rfl); k_whole)))
  (k_with "cj" => (first | assumption | exact And.left (by assumption) | exact And.left (And.right (by assumption)) | exact And.right (by assumption) | exact And.left (And.right (And.right (by assumption))) | exact And.right (And.right (by assumption)) | exact And.left (And.right (And.right (And.right (by assumption)))) | exact And.right (And.right (And.right (by assumption))) | exact And.left (And.right (And.right (And.right (And.right (by assumption))))) | exact And.right (And.right (And.right (And.right (by assumption)))) | exact And.left (And.right (And.right (And.right (And.right (And.right (by assumption)))))) | exact And.right (And.right (And.right (And.right (And.right (by assumption))))) | exact And.left (And.right (And.right (And.right (And.right (And.right (And.right (by assumption))))))) | exact And.right (And.right (And.right (And.right (And.right (And.right (by assumption)))))) | exact And.left (And.right (And.right (And.right (And.right (And.right (And.right (And.right (by assumption)))))))) | exact And.right (And.right (And.right (And.right (And.right (And.right (And.right (by assumption))))))) | exact And.left (And.right (And.right (And.right (And.right (And.right (And.right (And.right (And.right (by assumption))))))))) | exact And.right (And.right (And.right (And.right (And.right (And.right (And.right (And.right (by assumption)))))))) | exact And.left (And.right (And.right (And.right (And.right (And.right (And.right (And.right (And.right (And.right (by assumption)))))))))) | exact And.right (And.right (And.right (And.right (And.right (And.right (And.right (And.right (And.right (by assumption))))))))) | exact And.left (And.right (And.right (And.right (And.right (And.right (And.right (And.right (And.right (And.right (And.right (by assumption))))))))))) | exact And.right (And.right (And.right (And.right (And.right (And.right (And.right (And.right (And.right (And.right (by assumption)))))))))) | exact And.left (And.right (And.right (And.right (And.right (And.right (And.right (And.right (And.right (And.right (And.right (And.right (by assumption)))))))))))) | exact And.right (And.right (And.right (And.right (And.right (And.right (And.right (And.right (And.right (And.right (And.right (by assumption))))))))))) | exact And.left (And.right (And.right (And.right (And.right (And.right (And.right (And.right (And.right (And.right (And.right (And.right (And.right (by assumption))))))))))))) | exact And.right (And.right (And.right (And.right (And.right (And.right (And.right (And.right (And.right (And.right (And.right (And.right (by assumption)))))))))))) | exact And.left (And.right (And.right (And.right (And.right (And.right (And.right (And.right (And.right (And.right (And.right (And.right (And.right (And.right (by assumption)))))))))))))) | exact And.right (And.right (And.right (And.right (And.right (And.right (And.right (And.right (And.right (And.right (And.right (And.right (And.right (by assumption)))))))))))))))
  (k_with "cj2" => (first | k_extra "cj" | exact Nat.lt_succ_of_lt (by k_extra "cj") | exact Nat.lt_succ_of_lt (Nat.lt_succ_of_lt (by k_extra "cj")) | exact Nat.lt_succ_self _))
  (k_with "om" => (first | (with_reducible assumption) | (with_reducible exact Nat.ne_of_gt (by k_extra "cj")) | (with_reducible exact Nat.ne_of_lt (by k_extra "cj")) | (with_reducible k_extra "cj2") | (with_reducible exact Nat.ne_of_lt (by k_extra "cj2")) | (with_reducible exact Nat.ne_of_gt (by k_extra "cj2")) | (with_reducible exact Ne.symm (by k_extra "cj")) | omega))
  (k_with "k_ne" => (refine neN ?_; (try dsimp only); k_extra "om"))
  trivial
theorem any_mem {ns : List Int} {k : Int} (h : (ns.any fun x => x == k) = true) : k ∈ ns := by
  obtain ⟨x, hx, e⟩ := List.any_eq_true.mp h
  rw [← beq_iff_eq.mp e]; exact hx
theorem any_not {ns : List Int} {k : Int} (h : (ns.any fun x => x == k) = false) : k ∉ ns := fun hk => by
  have := List.any_eq_false.mp h k hk
  simp at this
structure CompInv (J : Nat → List Value → List (Addr × Obj) → Prop) : Prop where
section
variable {prog : Program} {w : World} {A : Around} {E : Value → Shared → Prop} {s : Shared} {h₀ : Heap} {L : Addr} {m : Str → Option Value} {env : Env}
  {elt ct : Expr} {x : Str} {scope : Scope} {cl : List (Str × Addr)} {S : List (Addr × Obj) → Prop} {P : Nat → Value → Prop} {Fin : List Value → List (Addr × Obj) → Prop} {n : Nat} {J : Nat → List Value → List (Addr × Obj) → Prop}
theorem compEnd_mono {s₁ : Shared} {I C D : Addr} {oI oC oD : Obj} {r r' : Value → List (Addr × Obj) → Prop} {y : Value} {s₂ : Shared} (h : CompEnd h₀ L m s₁ I oI C oC D oD S r y s₂) (hr : ∀ nx, r y nx → r' y nx) : CompEnd h₀ L m s₁ I oI C oC D oD S r' y s₂ := by
  obtain ⟨h', tk, nx, e, F, N, o, hS, q⟩ := h
  exact ⟨h', tk, nx, e, F, N, o, hS, hr _ q⟩
theorem compRest_inv
    (turn : ∀ i v ys news I oI C oC D m₂ h tk (E' : Value → Shared → Prop), i < n → P i v → J i ys news → NsObj oC m₂ → m₂ x = some v → Fr h₀ L h m → News h₀ L h ((I, oI) :: (C, oC) :: (D, lst ys) :: news) → Off3 I C D news → ((@Ne Nat I C) ∧ (@Ne Nat I D) ∧ (@Ne Nat C D)) →
      wpAny (model prog w) A (eval elt (compEnvC scope cl C env)) (CompEnd h₀ L m { s with heap := h, toks := tk } I oI C oC D (lst ys) S (fun y news' => J (i + 1) (ys ++ [y]) news')) E' { s with heap := h, toks := tk })
    (fin : ∀ ys news, J n ys news → Fin ys news) : ∀ (k i : Nat) (ys : List Value) (news : List (Addr × Obj)), i + k = n → J i ys news → CompRest prog w A h₀ L m env elt x scope cl s S P Fin k i ys news
  | 0, i, ys, news, hk, hJ => .zero (fin _ _ (by rw [← hk]; exact hJ))
  | k + 1, i, ys, news, hk, hJ => .succ fun v I oI C oC D m₂ h tk E' a1 a2 a3 a4 a5 a6 a7 =>
    wpAny_mono (turn i v ys news I oI C oC D m₂ h tk E' (by omega) a1 hJ a2 a3 a4 a5 a6 a7) (fun y s' z => compEnd_mono z fun nx hn => compRest_inv turn fin k (i + 1) _ nx (by omega) hn) fun _ _ e => e
theorem compRestT_inv
    (turn : ∀ i v ys news I oI C oC D m₂ h tk (E' : Value → Shared → Prop), i < n → P i v → J i ys news → NsObj oC m₂ → m₂ x = some v → Fr h₀ L h m → News h₀ L h ((I, oI) :: (C, oC) :: (D, lst ys) :: news) → Off3 I C D news → ((@Ne Nat I C) ∧ (@Ne Nat I D) ∧ (@Ne Nat C D)) →
      wpAny (model prog w) A (isTrue ct (compEnvC scope cl C env) (eval ct (compEnvC scope cl C env))) (fun ok s' => if ok = true then
        wpAny (model prog w) A (eval elt (compEnvC scope cl C env)) (CompEnd h₀ L m { s with heap := h, toks := tk } I oI C oC D (lst ys) S (fun y news' => J (i + 1) (ys ++ [y]) news')) E' s'
        else CompEnd h₀ L m { s with heap := h, toks := tk } I oI C oC D (lst ys) S (fun _ news' => J (i + 1) ys news') Value.none s') E' { s with heap := h, toks := tk })
    (fin : ∀ ys news, J n ys news → Fin ys news) : ∀ (k i : Nat) (ys : List Value) (news : List (Addr × Obj)), i + k = n → J i ys news → LCt.CompRestT prog w A h₀ L m env ct elt x scope cl s S P Fin k i ys news
  | 0, i, ys, news, hk, hJ => .zero (fin _ _ (by rw [← hk]; exact hJ))
  | k + 1, i, ys, news, hk, hJ => .succ fun v I oI C oC D m₂ h tk E' a1 a2 a3 a4 a5 a6 a7 =>
    wpAny_mono (turn i v ys news I oI C oC D m₂ h tk E' (by omega) a1 hJ a2 a3 a4 a5 a6 a7) (fun ok s' z => by
      cases ok with
      | true =>
        simp only [if_true] at z ⊢
        exact wpAny_mono z (fun y s'' z => compEnd_mono z fun nx hn => compRestT_inv turn fin k (i + 1) _ nx (by omega) hn) fun _ _ e => e
      | false =>
        simp only [Bool.false_eq_true, if_false] at z ⊢
        exact compEnd_mono z fun nx hn => compRestT_inv turn fin k (i + 1) _ nx (by omega) hn) fun _ _ e => e

theorem comp_listM {Fin : Shared → List Value → List (Addr × Obj) → Prop} {ax : Addr} {vs : List Value} {k : Nat} {news : List (Addr × Obj)} {s₁ : Shared} (_hJ : CompInv J)
    (hh : A.handled = none) (F : Fr h₀ L s₁.heap m) (N : News h₀ L s₁.heap news) (hm : (ax, listOf vs.toArray k) ∈ news) (hz : Hold (vs.length ≤ 100000)) (h0 : Hold (J 0 [] news))
    (turn : Hold (∀ i v ys news I oI C oC D m₂ h tk (E' : Value → Shared → Prop), i < vs.length → vs[i]? = some v → J i ys news → NsObj oC m₂ → m₂ x = some v → Fr h₀ L h m → News h₀ L h ((I, oI) :: (C, oC) :: (D, lst ys) :: news) → Off3 I C D news → ((@Ne Nat I C) ∧ (@Ne Nat I D) ∧ (@Ne Nat C D)) →
      wpAny (model prog w) A (eval elt (compEnvC scope cl C env)) (CompEnd h₀ L m { s₁ with heap := h, toks := tk } I oI C oC D (lst ys) (SrcAt h₀ ax vs.toArray) (fun y news' => J (i + 1) (ys ++ [y]) news')) E' { s₁ with heap := h, toks := tk }))
    (fin : Hold (∀ g ys news, J vs.length ys news → Fin { s₁ with heap := g } ys news)) : CompSrc prog w A h₀ L m env elt x scope cl Fin (.ref ax) s₁ := by
  have hsz : vs.toArray.size = vs.length := List.size_toArray
  refine CompSrc.ledger hh F N hm (by rw [hsz, sizeLine_eq]; unfold Hold at hz; omega) fun g => ?_
  rw [hsz]
  refine compRest_inv (n := vs.length) (J := J) (fun i v ys news I oI C oC D m₂ h tk E' a0 a1 => ?_) (fin g) _ 0 [] news (by omega) h0
  exact turn i v ys news I oI C oC D m₂ h tk E' a0 (by simpa using a1)
theorem comp_listTM {Fin : Shared → List Value → List (Addr × Obj) → Prop} {ax : Addr} {vs : List Value} {k : Nat} {news : List (Addr × Obj)} {s₁ : Shared} (_hJ : CompInv J)
    (hh : A.handled = none) (F : Fr h₀ L s₁.heap m) (N : News h₀ L s₁.heap news) (hm : (ax, listOf vs.toArray k) ∈ news) (hz : Hold (vs.length ≤ 100000)) (h0 : Hold (J 0 [] news))
    (turn : Hold (∀ i v ys news I oI C oC D m₂ h tk (E' : Value → Shared → Prop), i < vs.length → vs[i]? = some v → J i ys news → NsObj oC m₂ → m₂ x = some v → Fr h₀ L h m → News h₀ L h ((I, oI) :: (C, oC) :: (D, lst ys) :: news) → Off3 I C D news → ((@Ne Nat I C) ∧ (@Ne Nat I D) ∧ (@Ne Nat C D)) →
      wpAny (model prog w) A (isTrue ct (compEnvC scope cl C env) (eval ct (compEnvC scope cl C env))) (fun ok s' => if ok = true then
        wpAny (model prog w) A (eval elt (compEnvC scope cl C env)) (CompEnd h₀ L m { s₁ with heap := h, toks := tk } I oI C oC D (lst ys) (SrcAt h₀ ax vs.toArray) (fun y news' => J (i + 1) (ys ++ [y]) news')) E' s'
        else CompEnd h₀ L m { s₁ with heap := h, toks := tk } I oI C oC D (lst ys) (SrcAt h₀ ax vs.toArray) (fun _ news' => J (i + 1) ys news') Value.none s') E' { s₁ with heap := h, toks := tk }))
    (fin : Hold (∀ g ys news, J vs.length ys news → Fin { s₁ with heap := g } ys news)) : LCt.CompSrcT prog w A h₀ L m env ct elt x scope cl Fin (.ref ax) s₁ := by
  have hsz : vs.toArray.size = vs.length := List.size_toArray
  refine LCt.CompSrcT.ledger hh F N hm (by rw [hsz, sizeLine_eq]; unfold Hold at hz; omega) fun g => ?_
  rw [hsz]
  refine compRestT_inv (n := vs.length) (J := J) (fun i v ys news I oI C oC D m₂ h tk E' a0 a1 => ?_) (fin g) _ 0 [] news (by omega) h0
  exact turn i v ys news I oI C oC D m₂ h tk E' a0 (by simpa using a1)
theorem comp_rangeM {Fin : Shared → List Value → List (Addr × Obj) → Prop} {r : Addr} {b : Int} {t u v : Tok} {k : Nat} {news : List (Addr × Obj)} {s₁ : Shared} (_hJ : CompInv J)
    (hh : A.handled = none) (F : Fr h₀ L s₁.heap m) (N : News h₀ L s₁.heap news) (hr : IsRange s₁.heap r 0 b 1 t u v) (hn : b = (k : Int)) (hz : Hold (k ≤ 100000)) (h0 : Hold (J 0 [] news))
    (turn : Hold (∀ (i : Nat) (ti : Tok) ys news I oI C oC D m₂ h tk (E' : Value → Shared → Prop), i < k → J i ys news → NsObj oC m₂ → m₂ x = some (.int (i : Int) ti) → Fr h₀ L h m → News h₀ L h ((I, oI) :: (C, oC) :: (D, lst ys) :: news) → Off3 I C D news → ((@Ne Nat I C) ∧ (@Ne Nat I D) ∧ (@Ne Nat C D)) →
      wpAny (model prog w) A (eval elt (compEnvC scope cl C env)) (CompEnd h₀ L m { s₁ with heap := h, toks := tk } I oI C oC D (lst ys) (fun _ => True) (fun y news' => J (i + 1) (ys ++ [y]) news')) E' { s₁ with heap := h, toks := tk }))
    (fin : Hold (∀ g ys news, J k ys news → Fin { s₁ with heap := g } ys news)) : CompSrc prog w A h₀ L m env elt x scope cl Fin (.ref r) s₁ := by
  subst hn
  unfold Hold at hz
  refine CompSrc.range (n := k) hh F N hr (small_one (by omega) (by omega) (by omega) (by omega)) (by rw [rangeSize_nat]; simp) (by rw [sizeLine_eq]; omega) fun g => ?_
  refine compRest_inv (n := k) (J := J) (fun i v ys news I oI C oC D m₂ h tk E' a0 a1 => ?_) (fin g) _ 0 [] news (by omega) h0
  obtain ⟨ti, rfl⟩ := a1
  have e : (0 : Int) + (i : Int) = (i : Int) := by omega
  intro a2 a3 a4
  rw [e] at a4
  exact turn i ti ys news I oI C oC D m₂ h tk E' a0 a2 a3 a4
theorem m_index {D : Addr} {ys : List Value} {ns : List Int} {k : Int} {t : Tok} {Q : Value → Shared → Prop} (hl : s.heap.IsList D ys.toArray) (hi : IntsAre ys ns) (hz : ns.length ≤ 100000) (hk : k ∈ ns) (h : Q (.int (ns.idxOf k : Nat) s.toks) { s with toks := s.toks + 1 }) :
    wpAny (model prog w) A (call (.builtin "list.index") [.ref D, .int k t]) Q E s := by
  obtain ⟨⟨cls, dd, data, sl⟩, ho, hc, n, hd⟩ := id hl
  simp only at hc hd
  subst hc hd
  have hlen := hi.length
  have hj : ns.idxOf k < ns.length := List.idxOf_lt_length_iff.mpr hk
  refine call_meets PySem.F.slot_list_index ⟨_, ho, rfl⟩ PySem.F.entry_list_index (PySem.F.args_list_index_2 _ _)
    (list_indexAt D ys.toArray n dd sl (.int k t) (isInt k) (ns.idxOf k) (by simpa [hlen] using hj) (by omega) ?_ ?_) ⟨ho, fun y hy => (eq_isInt k t hi y (by simpa using hy)).at _ _, h⟩
  · show isInt k ys[ns.idxOf k] = true
    rw [isInt_at k hi _ (by omega) hj]
    simpa using List.getElem_idxOf hj
  · intro j hjs hlt
    show isInt k ys[j] = false
    rw [isInt_at k hi j (by simpa using hjs) (by omega)]
    exact ne_of_lt_idxOf hlt _
end

end

theorem w_DB6 : True := by
  k_with_none
  (k_with "eval Name" => (k_here; k_dflt (refine' nameX_L (by k_asm) (by rfl) ?_ (by rfl) (by rfl); k_whole)))
  (k_with "cj" => (first | assumption | exact And.left (by assumption) | exact And.left (And.right (by assumption)) | exact And.right (by assumption) | exact And.left (And.right (And.right (by assumption))) | exact And.right (And.right (by assumption)) | exact And.left (And.right (And.right (And.right (by assumption)))) | exact And.right (And.right (And.right (by assumption))) | exact And.left (And.right (And.right (And.right (And.right (by assumption))))) | exact And.right (And.right (And.right (And.right (by assumption)))) | exact And.left (And.right (And.right (And.right (And.right (And.right (by assumption)))))) | exact And.right (And.right (And.right (And.right (And.right (by assumption))))) | exact And.left (And.right (And.right (And.right (And.right (And.right (And.right (by assumption))))))) | exact And.right (And.right (And.right (And.right (And.right (And.right (by assumption)))))) | exact And.left (And.right (And.right (And.right (And.right (And.right (And.right (And.right (by assumption)))))))) | exact And.right (And.right (And.right (And.right (And.right (And.right (And.right (by assumption))))))) | exact And.left (And.right (And.right (And.right (And.right (And.right (And.right (And.right (And.right (by assumption))))))))) | exact And.right (And.right (And.right (And.right (And.right (And.right (And.right (And.right (by assumption)))))))) | exact And.left (And.right (And.right (And.right (And.right (And.right (And.right (And.right (And.right (And.right (by assumption)))))))))) | exact And.right (And.right (And.right (And.right (And.right (And.right (And.right (And.right (And.right (by assumption))))))))) | exact And.left (And.right (And.right (And.right (And.right (And.right (And.right (And.right (And.right (And.right (And.right (by assumption))))))))))) | exact And.right (And.right (And.right (And.right (And.right (And.right (And.right (And.right (And.right (And.right (by assumption)))))))))) | exact And.left (And.right (And.right (And.right (And.right (And.right (And.right (And.right (And.right (And.right (And.right (And.right (by assumption)))))))))))) | exact And.right (And.right (And.right (And.right (And.right (And.right (And.right (And.right (And.right (And.right (And.right (by assumption))))))))))) | exact And.left (And.right (And.right (And.right (And.right (And.right (And.right (And.right (And.right (And.right (And.right (And.right (And.right (by assumption))))))))))))) | exact And.right (And.right (And.right (And.right (And.right (And.right (And.right (And.right (And.right (And.right (And.right (And.right (by assumption)))))))))))) | exact And.left (And.right (And.right (And.right (And.right (And.right (And.right (And.right (And.right (And.right (And.right (And.right (And.right (And.right (by assumption)))))))))))))) | exact And.right (And.right (And.right (And.right (And.right (And.right (And.right (And.right (And.right (And.right (And.right (And.right (And.right (by assumption)))))))))))))))
  (k_with "cj2" => (first | k_extra "cj" | exact Nat.lt_succ_of_lt (by k_extra "cj") | exact Nat.lt_succ_of_lt (Nat.lt_succ_of_lt (by k_extra "cj")) | exact Nat.lt_succ_self _))
  (k_with "om" => (first | (with_reducible assumption) | (with_reducible exact Nat.ne_of_gt (by k_extra "cj")) | (with_reducible exact Nat.ne_of_lt (by k_extra "cj")) | (with_reducible k_extra "cj2") | (with_reducible exact Nat.ne_of_lt (by k_extra "cj2")) | (with_reducible exact Nat.ne_of_gt (by k_extra "cj2")) | (with_reducible exact Ne.symm (by k_extra "cj")) | omega))
  (k_with "k_ne" => (refine neN ?_; (try dsimp only); k_extra "om"))
  trivial
section
variable {prog : Program} {w : World} {A A₀ : Around} {E : Value → Shared → Prop} {s : Shared} {K : Frag} {L : Addr} {h₀ base : Heap} {m mg mb : Str → Option Value} {news : List (Addr × Obj)} {p : Program} {loose : List Str} {mean : ExcName → Option Value} {Q : Value → Shared → Prop}
/-- entering a method some of whose locals are cells -/
theorem enterC {env : Env} {outer : List Env} {name qual : Str} {params : Arguments} {body : List Stmt} {scope : Scope} {dV kV doc pm cdv ct oc : Value} {an od : Option Addr} {osl : Array (Option Value)} {f : Addr} {args : List Value} {binds : List (Str × Value)}
    (B : Below A₀ base outer h₀) (F : Fr h₀ L s.heap m) (X₀ : K.In h₀) (N : News h₀ L s.heap news) (T : Top p loose mean mg mb h₀) (hA : A.frames = some (env :: outer)) (hf : env.frame = some L) (hke : env.scope.kind = .function)
    (ho : K.lookup f = some ⟨oc, od, .func (fnOf name qual params body scope dV kV doc pm an cdv ct), osl⟩) (hcd : codeIn K cdv qual = true) (hroom : A.depth < recursionLimit)
    (hbind : BindsTo s (fnOf name qual params body scope dV kV doc pm an cdv ct) ⟨args, []⟩ binds) (hkind : (binds.all fun y => scope.names.lookup y.1 == some .local || scope.names.lookup y.1 == some .cell) = true)
    (hnd : ((cellsFrom 0 scope.names []).map (·.1)).Nodup)
    (h : ∀ g L' h₁ tk cells, Fr h₀ L g m → Fr g L' h₁ (bindL (envOfC qual scope L' f cdv).kindOf binds fun _ => none) → News g L' h₁ (cells ++ news) →
      CellsAre (bindC (envOfC qual scope L' f cdv).kindOf binds fun _ => none) (cellsFrom (L' + 1) scope.names []) cells → Below A base (env :: outer) g → K.In g → Top p loose mean mg mb g → GSub s.heap g (news.map (·.1)) → (∀ p ∈ news, p.1 < L') →
      wpAny (model prog w) (A.deeper (envOfC qual scope L' f cdv)) (execs body (envOfC qual scope L' f cdv))
        (fun fl s' => MEnd g Q (match fl with | .ret v => v | _ => .none) s')
        (fun e s' => wpAny (model prog w) (A.deeper (envOfC qual scope L' f cdv)) (leaving (envOfC qual scope L' f cdv) e) (fun _ s'' => E e s'') (fun e' s'' => E e' s'') s')
        { s with heap := h₁, toks := tk })
    (hco : scope.isCoroutine = false) (hgen : scope.isGenerator = false) (hk : scope.kind = .function) : wpAny (model prog w) A (call (.ref f) args) Q E s := by
  refine wpAny_call ?_
  have X := X₀.keeps F.keep
  have hlim : s.heap.NoLimit := T.nolimit.keeps F.keep
  obtain ⟨FG, BG, st, lv⟩ := groundX (R := fun r s' => match r with | .ok (.ret v) => Q v s' | .ok _ => False | .error e => E e s') B F N hA hf hke
  refine codeAny_call_function hroom (X _ _ ho) rfl hco hgen rfl (codeRec_of X hcd) (hbind _ _ _ _ ?_)
  refine wpAny_newFunctionEnv_cells hk (kindsX hkind _) fun env' he s' x => ?_
  subst he
  refine ⟨hlim.keeps x.toInCall.keep, codeAny_func ?_⟩
  obtain ⟨h₁, tk, rfl, _⟩ := x.done
  have hk₁ := x.toInCall.keep
  obtain ⟨cells, NC, Y⟩ := Cl.news (h₀ := s.heap) (Nat.le_refl _) fun n c hm => ⟨x.cell n c (lookup_of_mem_nodup (cellsFrom_names scope.names 0 (s.heap.objs.size + 1) [] [] rfl ▸ hnd) hm), x.above n c hm⟩
  refine wpAny_mono (h _ s.heap.objs.size h₁ tk cells FG ⟨x.toInCall.ns, fun b o e => hk₁ b o (of_hideAll _ e), Nat.le_of_eq (hideAll_size _ _)⟩ (fun p hp => ?_) Y BG (X₀.keeps st) (T.keeps st) (fun b o e n => hideAll_get _ e n) (fun p hp => Heap.lt_size (N p hp).1)) (fun fl s' z => ?_) fun _ _ y => y
  · rcases List.mem_append.mp hp with hp | hp
    · refine ⟨(NC p hp).1, (NC p hp).2.1, ?_⟩
      cases q : (hideAll s.heap (news.map (·.1))).get? p.1 with
      | none => rfl
      | some o => have := of_hideAll _ q; rw [(NC p hp).2.2] at this; cases this
    · exact ⟨hk₁ _ _ (N p hp).1, Nat.ne_of_lt (Heap.lt_size (N p hp).1), hideAll_none _ (List.mem_map_of_mem hp)⟩
  · obtain ⟨L'', m'', F'', q⟩ := z
    exact lv _ _ ⟨L'', m'', [], F'', News.nil, fun _ _ => q⟩
end
section
variable {w : World} {I : Ids} {f : Addr} {d u : Nat} {args : List Value} {st : St} {atv : Value} {Pre : Heap → Prop} {Post2 : Heap → Value → St → Value → Heap → Prop}
  {p : Program} {loose : List Str} {mean : ExcName → Option Value} {mg mb : Str → Option Value} {dp un : Nat} {gd : Option (List Code)} {cn : Str} {cs : Scope} {a : Addr} {ccd : Value} {cl : List (Str × Addr)} {outer : List Env} {A₀ : Around} {base h₀ : Heap} {L : Addr} {m : Str → Option Value} {news : List (Addr × Obj)} {s : Shared} {Q E : Value → Shared → Prop}
  {tk : Nat → Tok} {tm ta tn tw tl : Tok} {hi : Value} {nc ns : Nat}
/-- a changing method called from a method's frame; what is kept of the ledger is named -/
theorem MC.use (rest : List (Addr × Obj)) (C : MC w I f d u args st atv Pre Post2) (B : Below A₀ base outer h₀) (F : Fr h₀ L s.heap m) (X : (hd02.heap_39 w.params).In h₀) (N : News h₀ L s.heap news) (T : Top p loose mean mg mb h₀) (hk : cs.kind = .function) (ok : I.Ok) (fx : Fx h₀ I st)
    (h1 : (I.x, instObj 208 I.dx) ∈ news) (h2 : (I.dx, dictOf (kd w I tk (.str I.mode tm) (.str I.acc ta) (.int st.next tn) (.int st.which tw) atv (.bool st.nowhere) (.int st.last tl) hi) 11) ∈ news)
    (h3 : (I.cA, listOf (st.cs.map fun r => Value.bytes r.1 r.2).toArray nc) ∈ news) (h4 : (I.sA, listOf (st.rows.map fun r => Value.ref r.a).toArray ns) ∈ news)
    (hd : dp + d < recursionLimit) (hu : un + u < cLine) (pre : Pre s.heap) (hr : ∀ p ∈ rest, p ∈ news ∧ p.1 ∉ I.adr)
    (ret : ∀ v st' atv' h' tk' led', Fr h₀ L h' m → News h₀ L h' (led' ++ rest) → GSub s.heap h' I.adr → KFo w I st' atv' led' h' → Post2 s.heap v st' atv' h' → Q v { s with heap := h', toks := tk' }) :
    wpAny (model prog w) (ktrTop dp un gd cn cs L a ccd cl outer) (call (.ref f) args) Q E s := by
  have N4 := led_news N h1 h2 h3 h4
  refine C.say B F X N4 T hk hd hu ⟨tk, tm, ta, tn, tw, tl, hi, nc, ns, rfl, ok, fx.keeps (base_hide F N4 adr_led)⟩ pre fun v st' atv' h' tk' led' F' N' G K po => ret v st' atv' h' tk' led' F' (fun p hp => ?_) G K po
  rcases List.mem_append.mp hp with hp | hp
  · exact N' p hp
  · obtain ⟨q, o⟩ := hr p hp
    exact ⟨G _ _ (N p q).1 o, (N p q).2⟩
end

theorem w_DC1 : True := by
  k_with_none
  (k_with "eval Name" => (k_here; k_dflt (refine' nameX_L (by k_asm) (by rfl) ?_ (by rfl) (by rfl); k_whole)))
  (k_with "cj" => (first | assumption | exact And.left (by assumption) | exact And.left (And.right (by assumption)) | exact And.right (by assumption) | exact And.left (And.right (And.right (by assumption))) | exact And.right (And.right (by assumption)) | exact And.left (And.right (And.right (And.right (by assumption)))) | exact And.right (And.right (And.right (by assumption))) | exact And.left (And.right (And.right (And.right (And.right (by assumption))))) | exact And.right (And.right (And.right (And.right (by assumption)))) | exact And.left (And.right (And.right (And.right (And.right (And.right (by assumption)))))) | exact And.right (And.right (And.right (And.right (And.right (by assumption))))) | exact And.left (And.right (And.right (And.right (And.right (And.right (And.right (by assumption))))))) | exact And.right (And.right (And.right (And.right (And.right (And.right (by assumption)))))) | exact And.left (And.right (And.right (And.right (And.right (And.right (And.right (And.right (by assumption)))))))) | exact And.right (And.right (And.right (And.right (And.right (And.right (And.right (by assumption))))))) | exact And.left (And.right (And.right (And.right (And.right (And.right (And.right (And.right (And.right (by assumption))))))))) | exact And.right (And.right (And.right (And.right (And.right (And.right (And.right (And.right (by assumption)))))))) | exact And.left (And.right (And.right (And.right (And.right (And.right (And.right (And.right (And.right (And.right (by assumption)))))))))) | exact And.right (And.right (And.right (And.right (And.right (And.right (And.right (And.right (And.right (by assumption))))))))) | exact And.left (And.right (And.right (And.right (And.right (And.right (And.right (And.right (And.right (And.right (And.right (by assumption))))))))))) | exact And.right (And.right (And.right (And.right (And.right (And.right (And.right (And.right (And.right (And.right (by assumption)))))))))) | exact And.left (And.right (And.right (And.right (And.right (And.right (And.right (And.right (And.right (And.right (And.right (And.right (by assumption)))))))))))) | exact And.right (And.right (And.right (And.right (And.right (And.right (And.right (And.right (And.right (And.right (And.right (by assumption))))))))))) | exact And.left (And.right (And.right (And.right (And.right (And.right (And.right (And.right (And.right (And.right (And.right (And.right (And.right (by assumption))))))))))))) | exact And.right (And.right (And.right (And.right (And.right (And.right (And.right (And.right (And.right (And.right (And.right (And.right (by assumption)))))))))))) | exact And.left (And.right (And.right (And.right (And.right (And.right (And.right (And.right (And.right (And.right (And.right (And.right (And.right (And.right (by assumption)))))))))))))) | exact And.right (And.right (And.right (And.right (And.right (And.right (And.right (And.right (And.right (And.right (And.right (And.right (And.right (by assumption)))))))))))))))
  (k_with "cj2" => (first | k_extra "cj" | exact Nat.lt_succ_of_lt (by k_extra "cj") | exact Nat.lt_succ_of_lt (Nat.lt_succ_of_lt (by k_extra "cj")) | exact Nat.lt_succ_self _))
  (k_with "om" => (first | (with_reducible assumption) | (with_reducible exact Nat.ne_of_gt (by k_extra "cj")) | (with_reducible exact Nat.ne_of_lt (by k_extra "cj")) | (with_reducible k_extra "cj2") | (with_reducible exact Nat.ne_of_lt (by k_extra "cj2")) | (with_reducible exact Nat.ne_of_gt (by k_extra "cj2")) | (with_reducible exact Ne.symm (by k_extra "cj")) | omega))
  (k_with "k_ne" => (refine neN ?_; (try dsimp only); k_extra "om"))
  trivial
theorem w_DC1_0 : True := by
  (k_with "m_enter" => (((have _ : PySem.Challenge.rw_pb0243_02 = PySem.Challenge.rw_pb0243_02 → hd02.heap_39 = hd02.heap_39 := by k_fill; exact fun _ => rfl); k_dflt (refine' enterM (binds := by k_extra "binds") (by k_asm) (by k_asm) (by k_asm) (by k_asm) (by k_asm) (by exact rfl) (by exact rfl) (by assumption) (by k_is) (by k_is) (by ktr_room) (by exact BindsTo.of_eq rfl) (by exact locs rfl) ?_ (by exact rfl) (by exact rfl) (by exact rfl) (by decide); k_whole; intro _ _ _ _ _ _ _ _ _ _; (try dsimp only [List.reverse_cons, List.reverse_nil, List.nil_append, List.cons_append, List.length_cons, List.length_nil]); (try k_fold)))))
  (k_with "m_end" => (((try dsimp only); (try k_unfold); (try dsimp only))))
  (k_with "call builtin:len" => ((k_here; (with_reducible show wpAny _ _ (call (Value.builtin "len") [Value.ref _]) _ _ _); (refine' m_len (by k_asm) (by k_mem) (by omega) ?_))))
  (k_with "subscriptTail" => ((k_here; (with_reducible show wpAny _ _ (subscriptTail _ _ (Value.ref _) (Value.int (Nat.cast _) _)) _ _ _); (refine' m_item (by k_asm) (by k_mem) (by assumption) (by omega) ?_))))
  (k_with "pyIter ref" => ((k_here; (rename LoopInv _ => hJ); (rename Fr _ _ _ _ => yF); (rename News _ _ _ _ => yN); (rename IsRange _ _ _ _ _ _ _ _ => rgX); (with_unfolding_all refine' loop_rangeM hJ (by rfl) (by rfl) rgX rfl yF yN ?_ ?_ ?_ ?_))))
  (k_with "TurnPost" => ((dsimp only [TurnPost])))
  (k_with "call ref" => ((k_here; (with_reducible show wpAny _ _ (call (Value.ref 89) [Value.ref _, Value.bytes _ _, Value.int _ _]) _ _ _); k_dflt (refine' MR.use (m_worth ?_ ?_) (by k_asm) (by k_asm) (by k_asm) (by k_asm) (by k_asm) (by first | exact rfl | assumption) (by assumption) (by assumption) (by k_mem) (by k_mem) (by k_mem) (by k_mem) (by ktr_room) (by ktr_units) True.intro ?_; (first | decide | assumption); assumption); rintro _ _ _ _ _ _ ⟨_, rfl⟩; (try k_sweep); (try k_fold))))
  trivial
noncomputable def placeOf (cs : List (Bytes × Tok)) (key : Bytes) : Int := match cs.findIdx? (fun r => (worthB 0 r.1).toList == key.toList) with
  | some i => i
  | none => -1

theorem placeOf_at {cs : List (Bytes × Tok)} {key : Bytes} {i : Nat} {rc : Bytes × Tok} (hx : cs[i]? = some rc) (hc : ((worthB 0 rc.1).toList == key.toList) = true) (hn : ∀ j r, j < i → cs[j]? = some r → ((worthB 0 r.1).toList == key.toList) = false) : placeOf cs key = (i : Int) := by
  have e : cs.findIdx? (fun r => (worthB 0 r.1).toList == key.toList) = some i := by
    have hi : i < cs.length := by
      rcases Nat.lt_or_ge i cs.length with q | q
      · exact q
      · rw [List.getElem?_eq_none q] at hx; cases hx
    rw [List.findIdx?_eq_some_iff_getElem]
    refine ⟨hi, ?_, fun j hj => ?_⟩
    · rw [List.getElem?_eq_getElem hi] at hx
      rw [Option.some.inj hx]; exact hc
    · have := hn j cs[j] hj (List.getElem?_eq_getElem (Nat.lt_trans hj hi))
      rw [this]; exact Bool.false_ne_true
  unfold placeOf; rw [e]
theorem placeOf_none {cs : List (Bytes × Tok)} {key : Bytes} (hn : ∀ j r, j < cs.length → cs[j]? = some r → ((worthB 0 r.1).toList == key.toList) = false) : placeOf cs key = -1 := by
  have e : cs.findIdx? (fun r => (worthB 0 r.1).toList == key.toList) = none := by
    rw [List.findIdx?_eq_none_iff]
    intro r hr
    obtain ⟨j, hj, rfl⟩ := List.getElem_of_mem hr
    exact hn j _ hj (List.getElem?_eq_getElem hj)
  unfold placeOf; rw [e]

theorem m_place_of {w : World} {I : Ids} {st : St} {atv : Value} {b : Bytes} {t : Tok} :
    MR w I 103 6 60 [.ref I.x, .bytes b t] st atv (fun _ => True) (fun _ v _ => ∃ t', v = .int (placeOf st.cs b) t') := by
  constructor
  intro p loose mean mg mb dp un gd cn cs a ccd cl outer A₀ base h₀ L m led s Q E B F X N T hk hd hu KF _ hret
  obtain ⟨tk, tm, ta, tn, twh, tl, hi, nc, ns, rfl, ok, fx⟩ := id KF
  (k_with "binds" => exact ([(Str.ofString "self", .ref I.x), (Str.ofString "key", .bytes b t)]))
  k_extra "m_enter"
  rename_i g L₁ h₁ FG F₁ N₁ B₁ X₁ T₁ G
  have fxg := fx.keeps (gsub_hide G)
  have hlen := fxg.len
  have hJ : LoopInv (fun i nx => nx = led4 w I st tk tm ta tn twh tl atv hi nc ns ∧ ∀ j r, j < i → st.cs[j]? = some r → ((worthB 0 r.1).toList == b.toList) = false) := ⟨⟩
  k_steps
  · exact ⟨rfl, fun _ _ h => absurd h (Nat.not_lt_zero _)⟩
  · unfold Hold
    rintro I' i ti _ h2 tk2 itO hi' hne ⟨rfl, hJ2⟩ F2 N2
    have hx : st.cs[i]? = some st.cs[i] := List.getElem?_eq_getElem hi'
    have hbs := fxg.size _ (List.mem_of_getElem? hx)
    generalize st.cs[i] = rc at hx hbs
    k_steps
    all_goals
      with_reducible rename Fr _ _ _ _ => mF
      with_reducible rename News _ _ _ _ => mN
      with_reducible rename ((worthB 0 _).toList == _) = _ => hc
    · exact ⟨_, _, mF, hret _ _ _ (Fr.back FG mF) (keep_all N G mF (fun p hp => mN p (.tail _ hp))) ⟨_, by rw [placeOf_at hx hc hJ2]⟩⟩
    · refine ⟨_, _, _, _, rfl, mF, mN, hne, fun z hz => if_neg hz, rfl, fun j r hj hr => ?_⟩
      rcases Nat.lt_succ_iff_lt_or_eq.mp hj with q | rfl
      · exact hJ2 j r q hr
      · rw [hx] at hr; cases hr; exact hc
  · unfold Hold
    rintro u _ h2 tk2 ⟨rfl, hJ2⟩ F2 N2
    k_steps
    k_extra "m_end"
    with_reducible rename Fr _ _ _ _ => mF
    with_reducible rename News _ _ _ _ => mN
    exact ⟨_, _, mF, hret _ _ _ (Fr.back FG mF) (keep_all N G mF mN) ⟨_, by rw [placeOf_none hJ2]⟩⟩

theorem w_DS1 : True := by
  k_with_none
  (k_with "eval Name" => (k_here; k_dflt (refine' nameX_L (by k_asm) (by rfl) ?_ (by rfl) (by rfl); k_whole)))
  (k_with "cj" => (first | assumption | exact And.left (by assumption) | exact And.left (And.right (by assumption)) | exact And.right (by assumption) | exact And.left (And.right (And.right (by assumption))) | exact And.right (And.right (by assumption)) | exact And.left (And.right (And.right (And.right (by assumption)))) | exact And.right (And.right (And.right (by assumption))) | exact And.left (And.right (And.right (And.right (And.right (by assumption))))) | exact And.right (And.right (And.right (And.right (by assumption)))) | exact And.left (And.right (And.right (And.right (And.right (And.right (by assumption)))))) | exact And.right (And.right (And.right (And.right (And.right (by assumption))))) | exact And.left (And.right (And.right (And.right (And.right (And.right (And.right (by assumption))))))) | exact And.right (And.right (And.right (And.right (And.right (And.right (by assumption)))))) | exact And.left (And.right (And.right (And.right (And.right (And.right (And.right (And.right (by assumption)))))))) | exact And.right (And.right (And.right (And.right (And.right (And.right (And.right (by assumption))))))) | exact And.left (And.right (And.right (And.right (And.right (And.right (And.right (And.right (And.right (by assumption))))))))) | exact And.right (And.right (And.right (And.right (And.right (And.right (And.right (And.right (by assumption)))))))) | exact And.left (And.right (And.right (And.right (And.right (And.right (And.right (And.right (And.right (And.right (by assumption)))))))))) | exact And.right (And.right (And.right (And.right (And.right (And.right (And.right (And.right (And.right (by assumption))))))))) | exact And.left (And.right (And.right (And.right (And.right (And.right (And.right (And.right (And.right (And.right (And.right (by assumption))))))))))) | exact And.right (And.right (And.right (And.right (And.right (And.right (And.right (And.right (And.right (And.right (by assumption)))))))))) | exact And.left (And.right (And.right (And.right (And.right (And.right (And.right (And.right (And.right (And.right (And.right (And.right (by assumption)))))))))))) | exact And.right (And.right (And.right (And.right (And.right (And.right (And.right (And.right (And.right (And.right (And.right (by assumption))))))))))) | exact And.left (And.right (And.right (And.right (And.right (And.right (And.right (And.right (And.right (And.right (And.right (And.right (And.right (by assumption))))))))))))) | exact And.right (And.right (And.right (And.right (And.right (And.right (And.right (And.right (And.right (And.right (And.right (And.right (by assumption)))))))))))) | exact And.left (And.right (And.right (And.right (And.right (And.right (And.right (And.right (And.right (And.right (And.right (And.right (And.right (And.right (by assumption)))))))))))))) | exact And.right (And.right (And.right (And.right (And.right (And.right (And.right (And.right (And.right (And.right (And.right (And.right (And.right (by assumption)))))))))))))))
  (k_with "cj2" => (first | k_extra "cj" | exact Nat.lt_succ_of_lt (by k_extra "cj") | exact Nat.lt_succ_of_lt (Nat.lt_succ_of_lt (by k_extra "cj")) | exact Nat.lt_succ_self _))
  (k_with "om" => (first | (with_reducible assumption) | (with_reducible exact Nat.ne_of_gt (by k_extra "cj")) | (with_reducible exact Nat.ne_of_lt (by k_extra "cj")) | (with_reducible k_extra "cj2") | (with_reducible exact Nat.ne_of_lt (by k_extra "cj2")) | (with_reducible exact Nat.ne_of_gt (by k_extra "cj2")) | (with_reducible exact Ne.symm (by k_extra "cj")) | omega))
  (k_with "k_ne" => (refine neN ?_; (try dsimp only); k_extra "om"))
  trivial
/-- the tree of questions, answered by lt, comes to a; it asks only of two unlike places below n -/
inductive RunTo (lt : Nat → Nat → Bool) (n : Nat) {α : Type} : KasT α → α → Prop where
  | ret (a : α) : RunTo lt n (.ret a) a
  | ask {i j : Nat} {k : Bool → KasT α} {a : α} : i < n → j < n → i ≠ j → RunTo lt n (k (lt i j)) a → RunTo lt n (.ask i j k) a
theorem RunTo.bind {lt : Nat → Nat → Bool} {n : Nat} {α β : Type} {f : α → KasT β} {t : KasT α} {a : α} {b : β} (h : RunTo lt n t a) (h2 : RunTo lt n (f a) b) : RunTo lt n (t.bind f) b := by
  induction h with
  | ret a => exact h2
  | ask h1 h3 h4 _ ih => exact .ask h1 h3 h4 (ih h2)
theorem RunTo.wp {lt : Nat → Nat → Bool} {n : Nat} {α : Type} {cmp : Nat → Nat → (Bool → Shared → Prop) → Shared → Prop} {Inv : Shared → Prop} {Q : α → Shared → Prop} {t : KasT α} {a : α} (h : RunTo lt n t a)
    (hc : ∀ i j C s, i < n → j < n → i ≠ j → Inv s → (∀ s', Inv s' → C (lt i j) s') → cmp i j C s) (hq : ∀ s, Inv s → Q a s) : ∀ s, Inv s → t.kasWp cmp Q s := by
  induction h with
  | ret a => exact hq
  | ask h1 h3 h4 _ ih => exact fun s hs => hc _ _ _ s h1 h3 h4 hs fun s' hs' => ih hq s' hs'

structure LtOk (lt : Nat → Nat → Bool) (n : Nat) : Prop where
  tri : ∀ i j, i < n → j < n → i ≠ j → lt i j = !lt j i
  trans : ∀ i j k, i < n → j < n → k < n → lt i j = true → lt j k = true → lt i k = true

/-- an order of the places -/
structure Pm (n : Nat) (p : Array Nat) : Prop where
  perm : p.Perm (List.range n).toArray
theorem Pm.size {n : Nat} {p : Array Nat} (h : Pm n p) : p.size = n := by have := h.perm.size_eq; simpa using this
theorem Pm.lt {n : Nat} {p : Array Nat} (h : Pm n p) {k : Nat} (hk : k < n) : p.getD k 0 < n := by
  have hk' : k < p.size := by rw [h.size]; exact hk
  have hm : p[k] ∈ (List.range n).toArray := (h.perm.mem_iff).mp (Array.getElem_mem hk')
  simp only [Array.getD, hk', dite_true]
  simpa using hm
theorem Pm.ne {n : Nat} {p : Array Nat} (h : Pm n p) {k l : Nat} (hk : k < n) (hl : l < n) (hne : k ≠ l) : p.getD k 0 ≠ p.getD l 0 := by
  have hk' : k < p.size := by rw [h.size]; exact hk
  have hl' : l < p.size := by rw [h.size]; exact hl
  have nd : p.toList.Nodup := (h.perm.toList.nodup_iff).mpr (by simpa using List.nodup_range)
  simp only [Array.getD, hk', hl', dite_true]
  intro e
  have e2 : p.toList[k]'(by simpa using hk') = p.toList[l]'(by simpa using hl') := by simpa using e
  exact hne ((List.getElem_inj nd).mp e2)
/-- the first k stand in order -/
noncomputable def Srt (lt : Nat → Nat → Bool) (p : Array Nat) (k : Nat) : Prop := ∀ a b, a < b → b < k → lt (p.getD a 0) (p.getD b 0) = true

section
variable {lt : Nat → Nat → Bool} {n : Nat} {p : Array Nat} (O : LtOk lt n)
include O
theorem LtOk.not (i j : Nat) (hi : i < n) (hj : j < n) (hne : i ≠ j) (h : lt i j = false) : lt j i = true := by
  have := O.tri i j hi hj hne
  rw [h] at this
  cases q : lt j i with
  | true => rfl
  | false => rw [q] at this; cases this
theorem Srt.snoc (P : Pm n p) {k : Nat} (hk : k < n) (h1 : 1 ≤ k) (S : Srt lt p k) (h : lt (p.getD (k - 1) 0) (p.getD k 0) = true) : Srt lt p (k + 1) := by
  intro a b hab hb
  rcases Nat.lt_succ_iff_lt_or_eq.mp hb with q | rfl
  · exact S a b hab q
  · by_cases e : a = b - 1
    · rw [e]; exact h
    · exact O.trans _ _ _ (P.lt (by omega)) (P.lt (by omega)) (P.lt hk) (S a (b - 1) (by omega) (by omega)) h
theorem asc_run (P : Pm n p) : ∀ (f k : Nat), 1 ≤ k → k + f ≤ n → Srt lt p k → ∃ m, RunTo lt n (kas_asc p f k) m ∧ k ≤ m ∧ m ≤ k + f ∧ Srt lt p m ∧ (m < k + f → lt (p.getD m 0) (p.getD (m - 1) 0) = true)
  | 0, k, _, _, S => ⟨k, .ret k, Nat.le_refl _, Nat.le_refl _, S, fun h => absurd h (Nat.lt_irrefl _)⟩
  | f + 1, k, h1, h2, S => by
    cases q : lt (p.getD k 0) (p.getD (k - 1) 0) with
    | true => exact ⟨k, .ask (P.lt (by omega)) (P.lt (by omega)) (P.ne (by omega) (by omega) (by omega)) (by rw [q]; exact .ret k), Nat.le_refl _, by omega, S, fun _ => q⟩
    | false =>
      have q' := O.not _ _ (P.lt (by omega)) (P.lt (by omega)) (P.ne (by omega) (by omega) (by omega)) q
      obtain ⟨m, r1, r2, r3, r4, r5⟩ := asc_run P f (k + 1) (by omega) (by omega) (Srt.snoc O P (by omega) h1 S q')
      exact ⟨m, .ask (P.lt (by omega)) (P.lt (by omega)) (P.ne (by omega) (by omega) (by omega)) (by rw [q]; exact r1), by omega, by omega, r4, fun h => r5 (by omega)⟩
/-- the first k stand in falling order -/
noncomputable def Dsc (lt : Nat → Nat → Bool) (p : Array Nat) (k : Nat) : Prop := ∀ a b, a < b → b < k → lt (p.getD b 0) (p.getD a 0) = true
theorem Dsc.snoc (P : Pm n p) {k : Nat} (hk : k < n) (h1 : 1 ≤ k) (S : Dsc lt p k) (h : lt (p.getD k 0) (p.getD (k - 1) 0) = true) : Dsc lt p (k + 1) := by
  intro a b hab hb
  rcases Nat.lt_succ_iff_lt_or_eq.mp hb with q | rfl
  · exact S a b hab q
  · by_cases e : a = b - 1
    · rw [e]; exact h
    · exact O.trans _ _ _ (P.lt hk) (P.lt (by omega)) (P.lt (by omega)) h (S a (b - 1) (by omega) (by omega))
theorem desc_run (P : Pm n p) : ∀ (f k : Nat), 1 ≤ k → k + f ≤ n → Dsc lt p k → ∃ m, RunTo lt n (kas_desc f p k 0) (p, m, 0) ∧ k ≤ m ∧ m ≤ k + f ∧ Dsc lt p m
  | 0, k, _, _, S => ⟨k, .ret _, Nat.le_refl _, Nat.le_refl _, S⟩
  | f + 1, k, h1, h2, S => by
    cases q : lt (p.getD k 0) (p.getD (k - 1) 0) with
    | true =>
      obtain ⟨m, r1, r2, r3, r4⟩ := desc_run P f (k + 1) (by omega) (by omega) (Dsc.snoc O P (by omega) h1 S q)
      exact ⟨m, .ask (P.lt (by omega)) (P.lt (by omega)) (P.ne (by omega) (by omega) (by omega)) (by rw [q]; exact r1), by omega, by omega, r4⟩
    | false =>
      have q' := O.not _ _ (P.lt (by omega)) (P.lt (by omega)) (P.ne (by omega) (by omega) (by omega)) q
      refine ⟨k, .ask (P.lt (by omega)) (P.lt (by omega)) (P.ne (by omega) (by omega) (by omega)) ?_, Nat.le_refl _, by omega, S⟩
      rw [q]
      exact .ask (P.lt (by omega)) (P.lt (by omega)) (P.ne (by omega) (by omega) (by omega)) (by rw [q']; exact .ret _)
omit O in
theorem getD_of (p : Array Nat) (k : Nat) : p.getD k 0 = (p[k]?).getD 0 := by
  rw [Array.getD_eq_getD_getElem?]
omit O in
theorem Pm.bubble (P : Pm n p) (k d : Nat) : Pm n (bubble p k d) := ⟨(bubble_perm p k d).trans P.perm⟩
omit O in
theorem Pm.mirror (P : Pm n p) (i j d : Nat) : Pm n (mirror p i j d) := ⟨(mirror_perm p i j d).trans P.perm⟩
theorem place_run (P : Pm n p) {k : Nat} (hk : k < n) (S : Srt lt p k) : ∀ (f l r : Nat), l ≤ r → r ≤ k → r - l ≤ f → (∀ a, a < l → lt (p.getD a 0) (p.getD k 0) = true) → (∀ a, r ≤ a → a < k → lt (p.getD k 0) (p.getD a 0) = true) →
    ∃ m, RunTo lt n (kas_place p k f l r) m ∧ m ≤ k ∧ (∀ a, a < m → lt (p.getD a 0) (p.getD k 0) = true) ∧ (∀ a, m ≤ a → a < k → lt (p.getD k 0) (p.getD a 0) = true)
  | 0, l, r, h1, h2, h3, ha, hb => ⟨l, .ret l, by omega, ha, fun a h => hb a (by omega)⟩
  | f + 1, l, r, h1, h2, h3, ha, hb => by
    by_cases e : l ≥ r
    · refine ⟨l, ?_, by omega, ha, fun a h => hb a (by omega)⟩
      show RunTo lt n (if l ≥ r then .ret l else _) l
      rw [if_pos e]; exact .ret l
    · have hm : (l + r) / 2 < k := by omega
      have ex : ∀ m, RunTo lt n (if lt (p.getD k 0) (p.getD ((l + r) / 2) 0) = true then kas_place p k f l ((l + r) / 2) else kas_place p k f ((l + r) / 2 + 1) r) m → RunTo lt n (kas_place p k (f + 1) l r) m := fun m hm2 => by
        show RunTo lt n (if l ≥ r then .ret l else _) m
        rw [if_neg e]
        exact .ask (P.lt hk) (P.lt (by omega)) (P.ne hk (by omega) (by omega)) hm2
      cases q : lt (p.getD k 0) (p.getD ((l + r) / 2) 0) with
      | true =>
        obtain ⟨m, r1, r2, r3, r4⟩ := place_run P hk S f l ((l + r) / 2) (by omega) (by omega) (by omega) ha (fun a h h' => by
          by_cases e2 : a = (l + r) / 2
          · rw [e2]; exact q
          · exact O.trans _ _ _ (P.lt hk) (P.lt (by omega)) (P.lt (by omega)) q (S _ _ (by omega) h'))
        exact ⟨m, ex m (by rw [q]; exact r1), r2, r3, r4⟩
      | false =>
        have q' := O.not _ _ (P.lt hk) (P.lt (by omega)) (P.ne hk (by omega) (by omega)) q
        obtain ⟨m, r1, r2, r3, r4⟩ := place_run P hk S f ((l + r) / 2 + 1) r (by omega) (by omega) (by omega) (fun a h => by
          by_cases e2 : a = (l + r) / 2
          · rw [e2]; exact q'
          · exact O.trans _ _ _ (P.lt (by omega)) (P.lt (by omega)) (P.lt hk) (S _ _ (by omega) hm) q') hb
        exact ⟨m, ex m (by rw [q]; exact r1), r2, r3, r4⟩
theorem bin_run : ∀ (f : Nat) {p : Array Nat} (k : Nat), Pm n p → k + f = n → Srt lt p k → ∃ p', RunTo lt n (kas_bin f p k) p' ∧ Pm n p' ∧ Srt lt p' n
  | 0, p, k, P, h, S => ⟨p, .ret p, P, by rw [← h]; exact S⟩
  | f + 1, p, k, P, h, S => by
    obtain ⟨m, r1, r2, r3, r4⟩ := place_run O P (by omega) S k 0 k (Nat.zero_le _) (Nat.le_refl _) (by omega) (fun a h => absurd h (Nat.not_lt_zero _)) (fun a h h' => absurd h' (by omega))
    have hg : ∀ x, (bubble p k (k - m)).getD x 0 = if x = m then p.getD k 0 else if m < x ∧ x ≤ k then p.getD (x - 1) 0 else p.getD x 0 := fun x => by
      rw [getD_of, getElem?_bubble (by rw [P.size]; omega) _ (by omega)]
      rw [show k - (k - m) = m by omega]
      repeat' split
      all_goals rw [getD_of]
    have S' : Srt lt (bubble p k (k - m)) (k + 1) := by
      intro a b hab hb
      rw [hg, hg]
      by_cases ea : a = m
      · rw [if_pos ea, if_neg (by omega), if_pos (by omega)]
        exact r4 _ (by omega) (by omega)
      · rw [if_neg ea]
        by_cases eb : b = m
        · rw [if_pos eb, if_neg (by omega)]; exact r3 _ (by omega)
        · rw [if_neg eb]
          by_cases ca : m < a ∧ a ≤ k
          · rw [if_pos ca, if_pos (by omega)]; exact S _ _ (by omega) (by omega)
          · rw [if_neg ca]
            by_cases cb : m < b ∧ b ≤ k
            · rw [if_pos cb]; exact S _ _ (by omega) (by omega)
            · rw [if_neg cb]; exact S _ _ (by omega) (by omega)
    obtain ⟨p', s1, s2, s3⟩ := bin_run f (k + 1) (P.bubble k (k - m)) (by omega) S'
    exact ⟨p', r1.bind s1, s2, s3⟩
theorem count_run (P : Pm n p) (h2 : 2 ≤ n) : ∃ k p', RunTo lt n (kas_count n p) (k, p') ∧ Pm n p' ∧ 1 ≤ k ∧ k ≤ n ∧ Srt lt p' k := by
  have S1 : Srt lt p 1 := fun a b hab hb => absurd hab (by omega)
  obtain ⟨m, r1, r2, r3, r4, r5⟩ := asc_run O P (n - 1) 1 (Nat.le_refl _) (by omega) S1
  by_cases e : m = n
  · refine ⟨m, p, r1.bind ?_, P, r2, by omega, r4⟩
    rw [if_pos (by rw [beq_iff_eq]; exact e)]; exact .ret _
  · by_cases g : m > 1
    · refine ⟨m, p, r1.bind ?_, P, r2, by omega, r4⟩
      rw [if_neg (by rw [beq_iff_eq]; exact e), if_pos g]
      refine .ask (P.lt (by omega)) (P.lt (by omega)) (P.ne (by omega) (by omega) (by omega)) ?_
      rw [r4 0 (m - 1) (by omega) (by omega)]
      exact .ret _
    · have em : m = 1 := by omega
      subst em
      have q := r5 (by omega)
      have D2 : Dsc lt p 2 := fun a b hab hb => by
        have ea : a = 0 := by omega
        have eb : b = 1 := by omega
        subst ea eb; exact q
      obtain ⟨k, t1, t2, t3, t4⟩ := desc_run O P (n - (1 + 1)) (1 + 1) (by omega) (by omega) D2
      have P' : Pm n (kas_rev p 0 k) := P.mirror _ _ _
      have hg : ∀ x, (kas_rev p 0 k).getD x 0 = if x < k then p.getD (k - 1 - x) 0 else p.getD x 0 := fun x => by
        unfold kas_rev
        rw [getD_of, getElem?_mirror_all (by rw [P.size]; omega)]
        by_cases c : x < k
        · rw [if_pos c, if_pos ⟨Nat.zero_le _, c⟩, getD_of]
          congr 2; omega
        · rw [if_neg c, if_neg (by omega), getD_of]
      have S' : Srt lt (kas_rev p 0 k) k := fun a b hab hb => by
        rw [hg, hg, if_pos (by omega), if_pos hb]
        exact t4 _ _ (by omega) (by omega)
      obtain ⟨m', u1, u2, u3, u4, _⟩ := asc_run O P' (n - k) k (by omega) (by omega) S'
      refine ⟨m', kas_rev p 0 k, r1.bind ?_, P', by omega, by omega, u4⟩
      rw [if_neg (by rw [beq_iff_eq]; exact e), if_neg g]
      refine t1.bind ?_
      rw [if_neg (show ¬ (0 > 0) by omega)]
      exact u1.bind (.ret _)
theorem sort_run (h2 : 2 ≤ n) : ∃ p, RunTo lt n (kas_sort n) p ∧ Pm n p ∧ Srt lt p n := by
  obtain ⟨k, p, r1, P, hk, hn, S⟩ := count_run O (p := (List.range n).toArray) ⟨Array.Perm.refl _⟩ h2
  by_cases e : k < n
  · obtain ⟨p', s1, s2, s3⟩ := bin_run O (n - max k 1) (max k 1) P (by omega) (by rw [show max k 1 = k by omega]; exact S)
    refine ⟨p', r1.bind ?_, s2, s3⟩
    rw [if_pos e]; exact s1
  · refine ⟨p, r1.bind ?_, P, by rw [show n = k by omega]; exact S⟩
    rw [if_neg e]; exact .ret _
end

section
open PySem PySem.W PyProof.Rows PySem.Calls PySem.Spec Builtin
theorem w_DK1 : True := by
  k_with_none
  (k_with "eval Name" => (k_here; k_dflt (refine' nameX_L (by k_asm) (by rfl) ?_ (by rfl) (by rfl); k_whole)))
  (k_with "cj" => (first | assumption | exact And.left (by assumption) | exact And.left (And.right (by assumption)) | exact And.right (by assumption) | exact And.left (And.right (And.right (by assumption))) | exact And.right (And.right (by assumption)) | exact And.left (And.right (And.right (And.right (by assumption)))) | exact And.right (And.right (And.right (by assumption))) | exact And.left (And.right (And.right (And.right (And.right (by assumption))))) | exact And.right (And.right (And.right (And.right (by assumption)))) | exact And.left (And.right (And.right (And.right (And.right (And.right (by assumption)))))) | exact And.right (And.right (And.right (And.right (And.right (by assumption))))) | exact And.left (And.right (And.right (And.right (And.right (And.right (And.right (by assumption))))))) | exact And.right (And.right (And.right (And.right (And.right (And.right (by assumption)))))) | exact And.left (And.right (And.right (And.right (And.right (And.right (And.right (And.right (by assumption)))))))) | exact And.right (And.right (And.right (And.right (And.right (And.right (And.right (by assumption))))))) | exact And.left (And.right (And.right (And.right (And.right (And.right (And.right (And.right (And.right (by assumption))))))))) | exact And.right (And.right (And.right (And.right (And.right (And.right (And.right (And.right (by assumption)))))))) | exact And.left (And.right (And.right (And.right (And.right (And.right (And.right (And.right (And.right (And.right (by assumption)))))))))) | exact And.right (And.right (And.right (And.right (And.right (And.right (And.right (And.right (And.right (by assumption))))))))) | exact And.left (And.right (And.right (And.right (And.right (And.right (And.right (And.right (And.right (And.right (And.right (by assumption))))))))))) | exact And.right (And.right (And.right (And.right (And.right (And.right (And.right (And.right (And.right (And.right (by assumption)))))))))) | exact And.left (And.right (And.right (And.right (And.right (And.right (And.right (And.right (And.right (And.right (And.right (And.right (by assumption)))))))))))) | exact And.right (And.right (And.right (And.right (And.right (And.right (And.right (And.right (And.right (And.right (And.right (by assumption))))))))))) | exact And.left (And.right (And.right (And.right (And.right (And.right (And.right (And.right (And.right (And.right (And.right (And.right (And.right (by assumption))))))))))))) | exact And.right (And.right (And.right (And.right (And.right (And.right (And.right (And.right (And.right (And.right (And.right (And.right (by assumption)))))))))))) | exact And.left (And.right (And.right (And.right (And.right (And.right (And.right (And.right (And.right (And.right (And.right (And.right (And.right (And.right (by assumption)))))))))))))) | exact And.right (And.right (And.right (And.right (And.right (And.right (And.right (And.right (And.right (And.right (And.right (And.right (And.right (by assumption)))))))))))))))
  (k_with "cj2" => (first | k_extra "cj" | exact Nat.lt_succ_of_lt (by k_extra "cj") | exact Nat.lt_succ_of_lt (Nat.lt_succ_of_lt (by k_extra "cj")) | exact Nat.lt_succ_self _))
  (k_with "om" => (first | (with_reducible assumption) | (with_reducible exact Nat.ne_of_gt (by k_extra "cj")) | (with_reducible exact Nat.ne_of_lt (by k_extra "cj")) | (with_reducible k_extra "cj2") | (with_reducible exact Nat.ne_of_lt (by k_extra "cj2")) | (with_reducible exact Nat.ne_of_gt (by k_extra "cj2")) | (with_reducible exact Ne.symm (by k_extra "cj")) | omega))
  (k_with "k_ne" => (refine neN ?_; (try dsimp only); k_extra "om"))
  trivial
theorem slot_bytes_lt : Slot "bytes" (cmpInfo .Lt).2.1 "bytes.__lt__" :=
  .of (owner := "bytes") (n := "__lt__") (by rw [typeLookup_type, builtinLookup_eq_fast]; kernel_rfl) (by decide +kernel) (by decide +kernel) (by decide +kernel)
    (by first | exact .inl (by decide +kernel) | exact .inr (by decide +kernel)) (by rw [isSubtype_type]; kernel_rfl)
theorem entry_bytes_lt : entryFor table "bytes.__lt__" = some Builtin.«bytes.__lt__» := entryFor_of_tree (by kernel_rfl)
theorem args_bytes_lt (a b : Value) : argsOk "bytes.__lt__" ⟨[a, b], []⟩ := by unfold argsOk; kernel_rfl
theorem slot_bytes_gt : Slot "bytes" (cmpInfo .Gt).2.1 "bytes.__gt__" :=
  .of (owner := "bytes") (n := "__gt__") (by rw [typeLookup_type, builtinLookup_eq_fast]; kernel_rfl) (by decide +kernel) (by decide +kernel) (by decide +kernel)
    (by first | exact .inl (by decide +kernel) | exact .inr (by decide +kernel)) (by rw [isSubtype_type]; kernel_rfl)
theorem entry_bytes_gt : entryFor table "bytes.__gt__" = some Builtin.«bytes.__gt__» := entryFor_of_tree (by kernel_rfl)
theorem args_bytes_gt (a b : Value) : argsOk "bytes.__gt__" ⟨[a, b], []⟩ := by unfold argsOk; kernel_rfl

noncomputable def ltL (b c : List UInt8) : Bool := Bytes.order b c == .lt
noncomputable def gtL (b c : List UInt8) : Bool := Bytes.order b c == .gt
theorem order_flip : ∀ a b : List UInt8, gtL a b = ltL b a
  | [], [] | [], _ :: _ | _ :: _, [] => rfl
  | x :: a, y :: b => by
    have ih := order_flip a b
    unfold gtL ltL at *
    simp only [Bytes.order]
    by_cases h1 : x < y
    · have h2 : ¬ y < x := UInt8.lt_asymm h1
      simp [h1, h2]
    · by_cases h2 : y < x
      · simp [h1, h2]
      · simpa [h1, h2] using ih
theorem gives_bytes_lt (b c : Array UInt8) (t u : Tok) : Gives («bytes.__lt__» ⟨[.bytes b t, .bytes c u], []⟩) (.val (.bool (ltL b.toList c.toList))) := by
  refine .of_wp fun M A E s Q hq => ?_
  show wpAny M A (isInstance (.bytes c u) (.type "bytes") >>= fun r => _) _ E s
  refine wpAny_bind (wpAny_isInstance (typeIs_bytes s c u) F.sub_bytes_bytes ?_)
  exact wpAny_pure ⟨_, rfl, hq⟩
theorem gives_bytes_gt (b c : Array UInt8) (t u : Tok) : Gives («bytes.__gt__» ⟨[.bytes b t, .bytes c u], []⟩) (.val (.bool (ltL c.toList b.toList))) := by
  refine .of_wp fun M A E s Q hq => ?_
  show wpAny M A (isInstance (.bytes c u) (.type "bytes") >>= fun r => _) _ E s
  refine wpAny_bind (wpAny_isInstance (typeIs_bytes s c u) F.sub_bytes_bytes ?_)
  exact wpAny_pure ⟨_, rfl, by rw [← order_flip] at hq; exact hq⟩
section
variable {prog : Program} {w : World} {A : Around} {E : Value → Shared → Prop} {s : Shared} {b c : Array UInt8} {t u : Tok}
theorem rich_gt_bytes {Q : Value → Shared → Prop} (h : Q (.bool (ltL c.toList b.toList)) s) : wpAny (model prog w) A (richCompare .Gt (.bytes b t) (.bytes c u)) Q E s :=
  richCompare_gives (op := .Gt) (typeIs_bytes s b t) (typeIs_bytes s c u) slot_bytes_gt entry_bytes_gt (args_bytes_gt _ _) (gives_bytes_gt b c t u) (fun e => nomatch e) h
theorem lt_bytes {Q : Value → Shared → Prop} (h : Q (.bool (ltL b.toList c.toList)) s) : wpAny (model prog w) A (compareOp .Lt (.bytes b t) (.bytes c u)) Q E s :=
  compareOp_gives (op := .Lt) (typeIs_bytes s b t) (typeIs_bytes s c u) slot_bytes_lt entry_bytes_lt (args_bytes_lt _ _) (gives_bytes_lt b c t u) (fun e => nomatch e) h
theorem eqBool_bytes {Q : Bool → Shared → Prop} (h : Q (b.toList == c.toList) s) : wpAny (model prog w) A (eqBool (.bytes b t) (.bytes c u)) Q E s := by
  unfold eqBool
  show wpAny _ _ (if (Value.bytes b t == Value.bytes c u) = true then _ else _) Q E s
  by_cases hab : (Value.bytes b t == Value.bytes c u) = true
  · rw [if_pos hab]
    have e : b = c := by have := eq_of_beq hab; injection this
    subst e
    exact wpAny_bind (wpAny_rule (wpAny_pure (by simpa using h)))
  · rw [if_neg hab]
    exact wpAny_bind (eq_bytes (wpAny_truthy_bool h))
theorem oneLt_bytes {Q : Bool → Shared → Prop} (h : Q (ltL b.toList c.toList) s) : wpAny (model prog w) A (oneLt' true (.bytes b t) (.bytes c u)) Q E s := by
  rw [oneLt'_eq]
  simp only [if_true]
  refine wpAny_bind (wpAny_cRoomFor_byValue rfl ?_)
  refine wpAny_bind (wpAny_callSpecialIfBound?_slot (typeIs_bytes s b t) slot_bytes_lt (call_gives slot_bytes_lt (typeIs_bytes s b t) entry_bytes_lt (args_bytes_lt _ _) (gives_bytes_lt b c t u) ?_))
  exact wpAny_truthy_bool h
end

end

section
open PySem PySem.W PyProof.Rows PySem.Calls PySem.Spec Builtin
theorem w_DK2 : True := by
  k_with_none
  (k_with "eval Name" => (k_here; k_dflt (refine' nameX_L (by k_asm) (by rfl) ?_ (by rfl) (by rfl); k_whole)))
  (k_with "cj" => (first | assumption | exact And.left (by assumption) | exact And.left (And.right (by assumption)) | exact And.right (by assumption) | exact And.left (And.right (And.right (by assumption))) | exact And.right (And.right (by assumption)) | exact And.left (And.right (And.right (And.right (by assumption)))) | exact And.right (And.right (And.right (by assumption))) | exact And.left (And.right (And.right (And.right (And.right (by assumption))))) | exact And.right (And.right (And.right (And.right (by assumption)))) | exact And.left (And.right (And.right (And.right (And.right (And.right (by assumption)))))) | exact And.right (And.right (And.right (And.right (And.right (by assumption))))) | exact And.left (And.right (And.right (And.right (And.right (And.right (And.right (by assumption))))))) | exact And.right (And.right (And.right (And.right (And.right (And.right (by assumption)))))) | exact And.left (And.right (And.right (And.right (And.right (And.right (And.right (And.right (by assumption)))))))) | exact And.right (And.right (And.right (And.right (And.right (And.right (And.right (by assumption))))))) | exact And.left (And.right (And.right (And.right (And.right (And.right (And.right (And.right (And.right (by assumption))))))))) | exact And.right (And.right (And.right (And.right (And.right (And.right (And.right (And.right (by assumption)))))))) | exact And.left (And.right (And.right (And.right (And.right (And.right (And.right (And.right (And.right (And.right (by assumption)))))))))) | exact And.right (And.right (And.right (And.right (And.right (And.right (And.right (And.right (And.right (by assumption))))))))) | exact And.left (And.right (And.right (And.right (And.right (And.right (And.right (And.right (And.right (And.right (And.right (by assumption))))))))))) | exact And.right (And.right (And.right (And.right (And.right (And.right (And.right (And.right (And.right (And.right (by assumption)))))))))) | exact And.left (And.right (And.right (And.right (And.right (And.right (And.right (And.right (And.right (And.right (And.right (And.right (by assumption)))))))))))) | exact And.right (And.right (And.right (And.right (And.right (And.right (And.right (And.right (And.right (And.right (And.right (by assumption))))))))))) | exact And.left (And.right (And.right (And.right (And.right (And.right (And.right (And.right (And.right (And.right (And.right (And.right (And.right (by assumption))))))))))))) | exact And.right (And.right (And.right (And.right (And.right (And.right (And.right (And.right (And.right (And.right (And.right (And.right (by assumption)))))))))))) | exact And.left (And.right (And.right (And.right (And.right (And.right (And.right (And.right (And.right (And.right (And.right (And.right (And.right (And.right (by assumption)))))))))))))) | exact And.right (And.right (And.right (And.right (And.right (And.right (And.right (And.right (And.right (And.right (And.right (And.right (And.right (by assumption)))))))))))))))
  (k_with "cj2" => (first | k_extra "cj" | exact Nat.lt_succ_of_lt (by k_extra "cj") | exact Nat.lt_succ_of_lt (Nat.lt_succ_of_lt (by k_extra "cj")) | exact Nat.lt_succ_self _))
  (k_with "om" => (first | (with_reducible assumption) | (with_reducible exact Nat.ne_of_gt (by k_extra "cj")) | (with_reducible exact Nat.ne_of_lt (by k_extra "cj")) | (with_reducible k_extra "cj2") | (with_reducible exact Nat.ne_of_lt (by k_extra "cj2")) | (with_reducible exact Nat.ne_of_gt (by k_extra "cj2")) | (with_reducible exact Ne.symm (by k_extra "cj")) | omega))
  (k_with "k_ne" => (refine neN ?_; (try dsimp only); k_extra "om"))
  trivial
theorem ltL_irrefl : ∀ a : List UInt8, ltL a a = false
  | [] => rfl
  | x :: a => by
    have ih := ltL_irrefl a
    unfold ltL at *
    simp only [Bytes.order]
    have h : ¬ x < x := UInt8.lt_irrefl x
    simpa [h] using ih
theorem ltL_cons (x y : UInt8) (a b : List UInt8) : ltL (x :: a) (y :: b) = (decide (x < y) || (x == y && ltL a b)) := by
  unfold ltL
  simp only [Bytes.order]
  by_cases h1 : x < y
  · simp [h1]
  · by_cases h2 : y < x
    · have : x ≠ y := fun e => by subst e; exact h1 h2
      simp [h1, h2, this]
    · have : x = y := UInt8.le_antisymm (UInt8.not_lt.mp h2) (UInt8.not_lt.mp h1)
      simp [h1, h2, this]
theorem ltL_tri : ∀ a b : List UInt8, a ≠ b → ltL a b = !ltL b a
  | [], [], h => absurd rfl h
  | [], _ :: _, _ => rfl
  | _ :: _, [], _ => rfl
  | x :: a, y :: b, h => by
    rw [ltL_cons, ltL_cons]
    by_cases e : x = y
    · subst e
      have := ltL_tri a b (fun e => h (by rw [e]))
      have h : ¬ x < x := UInt8.lt_irrefl x
      simpa [h] using this
    · have e' : ¬ y = x := fun q => e q.symm
      by_cases h1 : x < y
      · have h2 : ¬ y < x := UInt8.lt_asymm h1
        simp [h1, h2, e']
      · have h2 : y < x := by
          rcases UInt8.lt_or_lt_of_ne e with q | q
          · exact absurd q h1
          · exact q
        simp [h1, h2, e]
theorem ltL_trans : ∀ a b c : List UInt8, ltL a b = true → ltL b c = true → ltL a c = true
  | [], _, [], _, h => by rename_i b _; cases b <;> cases h
  | [], _, _ :: _, _, _ => rfl
  | _ :: _, [], _, h, _ => by cases h
  | _ :: _, _ :: _, [], _, h => by cases h
  | x :: a, y :: b, z :: c, h1, h2 => by
    rw [ltL_cons] at *
    simp only [Bool.or_eq_true, Bool.and_eq_true, decide_eq_true_eq, beq_iff_eq] at *
    rcases h1 with h1 | ⟨rfl, h1⟩
    · rcases h2 with h2 | ⟨rfl, h2⟩
      · exact .inl (UInt8.lt_trans h1 h2)
      · exact .inl h1
    · rcases h2 with h2 | ⟨rfl, h2⟩
      · exact .inl h2
      · exact .inr ⟨rfl, ltL_trans a b c h1 h2⟩

structure TRow where
  a : Addr
  b : Bytes
  s : Int
  p : Int
  t1 : Tok
  t2 : Tok
  t3 : Tok
  deriving Inhabited
abbrev TRow.obj (r : TRow) : Obj := tupOf [.bytes r.b r.t1, .int r.s r.t2, .int r.p r.t3]
/-- the order of the tuples -/
noncomputable def keyLt (x y : Bytes × Int × Int) : Bool := if x.1.toList == y.1.toList then (if x.2.1 == y.2.1 then decide (x.2.2 < y.2.2) else decide (x.2.1 < y.2.1)) else ltL x.1.toList y.1.toList
abbrev TRow.key (r : TRow) : Bytes × Int × Int := (r.b, r.s, r.p)
theorem keyLt_tri (x y : Bytes × Int × Int) (h : x.2.2 ≠ y.2.2) : keyLt x y = !keyLt y x := by
  unfold keyLt
  by_cases e : x.1.toList = y.1.toList
  · rw [e]
    simp only [beq_self_eq_true, if_true]
    by_cases f : x.2.1 = y.2.1
    · rw [f]; simp only [beq_self_eq_true, if_true]
      by_cases g : x.2.2 < y.2.2
      · have : ¬ y.2.2 < x.2.2 := by omega
        simp [g, this]
      · have : y.2.2 < x.2.2 := by omega
        simp [g, this]
    · have f' : ¬ y.2.1 = x.2.1 := fun q => f q.symm
      by_cases g : x.2.1 < y.2.1
      · have : ¬ y.2.1 < x.2.1 := by omega
        simp [f, f', g, this]
      · have : y.2.1 < x.2.1 := by omega
        simp [f, f', g, this]
  · have e' : ¬ y.1.toList = x.1.toList := fun q => e q.symm
    simp only [beq_iff_eq, e, e', if_false]
    exact ltL_tri _ _ e
theorem keyLt_trans (x y z : Bytes × Int × Int) (h1 : keyLt x y = true) (h2 : keyLt y z = true) : keyLt x z = true := by
  unfold keyLt at *
  by_cases e : x.1.toList = y.1.toList
  · rw [e] at h1 ⊢
    simp only [beq_self_eq_true, if_true] at h1
    by_cases f : y.1.toList = z.1.toList
    · rw [f] at h2 ⊢
      simp only [beq_self_eq_true, if_true] at h2 ⊢
      by_cases g : x.2.1 = y.2.1
      · rw [g] at h1 ⊢
        simp only [beq_self_eq_true, if_true, decide_eq_true_eq] at h1
        by_cases k : y.2.1 = z.2.1
        · rw [k] at h2 ⊢
          simp only [beq_self_eq_true, if_true, decide_eq_true_eq] at h2 ⊢
          omega
        · simp only [beq_iff_eq, k, if_false, decide_eq_true_eq] at h2 ⊢
          exact h2
      · simp only [beq_iff_eq, g, if_false, decide_eq_true_eq] at h1
        by_cases k : y.2.1 = z.2.1
        · rw [← k]
          simp only [beq_iff_eq, g, if_false, decide_eq_true_eq]
          exact h1
        · simp only [beq_iff_eq, k, if_false, decide_eq_true_eq] at h2
          have q : ¬ x.2.1 = z.2.1 := by omega
          simp only [beq_iff_eq, q, if_false, decide_eq_true_eq]
          omega
    · simp only [beq_iff_eq, f, if_false] at h2 ⊢
      exact h2
  · simp only [beq_iff_eq, e, if_false] at h1
    by_cases f : y.1.toList = z.1.toList
    · rw [← f]
      simp only [beq_iff_eq, e, if_false]
      exact h1
    · simp only [beq_iff_eq, f, if_false] at h2
      have t := ltL_trans _ _ _ h1 h2
      have g : ¬ x.1.toList = z.1.toList := fun q => by rw [q, ltL_irrefl] at t; cases t
      simp only [beq_iff_eq, g, if_false]
      exact t

section
variable {prog : Program} {w : World} {A : Around} {E : Value → Shared → Prop} {s : Shared}
theorem key_lt {x y : TRow} {Q : Bool → Shared → Prop} (hx : s.heap.get? x.a = some x.obj) (hy : s.heap.get? y.a = some y.obj) (h : Q (keyLt x.key y.key) s) :
    wpAny (model prog w) A (keyLt' (tuples' true) (.ref x.a) (.ref y.a)) Q E s := by
  refine kat_lt hx rfl hy rfl ?_
  refine kat_cons (eqBool_bytes ?_)
  unfold keyLt at h
  cases e : (x.b.toList == y.b.toList) with
  | false =>
    refine kat_no (oneLt_bytes ?_)
    simp only [TRow.key, e] at h
    exact h
  | true =>
    simp only [TRow.key, e, if_true] at h
    refine kat_yes (kat_cons (wpAny_eqBool_int ?_))
    cases f : (x.s == y.s) with
    | false =>
      rw [f] at h
      refine kat_no (kat_one _ _ (PyProof.Rows.lt_int ?_))
      exact h
    | true =>
      rw [f] at h
      refine kat_yes (kat_cons (wpAny_eqBool_int ?_))
      cases g : (x.p == y.p) with
      | false =>
        refine kat_no (kat_one _ _ (PyProof.Rows.lt_int ?_))
        exact h
      | true =>
        refine kat_yes (kat_nil ?_)
        have : ¬ x.p < y.p := by rw [beq_iff_eq.mp g]; omega
        simpa [this] using h
end

end

section
open PySem PySem.W PyProof.Rows PySem.Calls PySem.Spec Builtin
theorem w_DK3 : True := by
  k_with_none
  (k_with "eval Name" => (k_here; k_dflt (refine' nameX_L (by k_asm) (by rfl) ?_ (by rfl) (by rfl); k_whole)))
  (k_with "cj" => (first | assumption | exact And.left (by assumption) | exact And.left (And.right (by assumption)) | exact And.right (by assumption) | exact And.left (And.right (And.right (by assumption))) | exact And.right (And.right (by assumption)) | exact And.left (And.right (And.right (And.right (by assumption)))) | exact And.right (And.right (And.right (by assumption))) | exact And.left (And.right (And.right (And.right (And.right (by assumption))))) | exact And.right (And.right (And.right (And.right (by assumption)))) | exact And.left (And.right (And.right (And.right (And.right (And.right (by assumption)))))) | exact And.right (And.right (And.right (And.right (And.right (by assumption))))) | exact And.left (And.right (And.right (And.right (And.right (And.right (And.right (by assumption))))))) | exact And.right (And.right (And.right (And.right (And.right (And.right (by assumption)))))) | exact And.left (And.right (And.right (And.right (And.right (And.right (And.right (And.right (by assumption)))))))) | exact And.right (And.right (And.right (And.right (And.right (And.right (And.right (by assumption))))))) | exact And.left (And.right (And.right (And.right (And.right (And.right (And.right (And.right (And.right (by assumption))))))))) | exact And.right (And.right (And.right (And.right (And.right (And.right (And.right (And.right (by assumption)))))))) | exact And.left (And.right (And.right (And.right (And.right (And.right (And.right (And.right (And.right (And.right (by assumption)))))))))) | exact And.right (And.right (And.right (And.right (And.right (And.right (And.right (And.right (And.right (by assumption))))))))) | exact And.left (And.right (And.right (And.right (And.right (And.right (And.right (And.right (And.right (And.right (And.right (by assumption))))))))))) | exact And.right (And.right (And.right (And.right (And.right (And.right (And.right (And.right (And.right (And.right (by assumption)))))))))) | exact And.left (And.right (And.right (And.right (And.right (And.right (And.right (And.right (And.right (And.right (And.right (And.right (by assumption)))))))))))) | exact And.right (And.right (And.right (And.right (And.right (And.right (And.right (And.right (And.right (And.right (And.right (by assumption))))))))))) | exact And.left (And.right (And.right (And.right (And.right (And.right (And.right (And.right (And.right (And.right (And.right (And.right (And.right (by assumption))))))))))))) | exact And.right (And.right (And.right (And.right (And.right (And.right (And.right (And.right (And.right (And.right (And.right (And.right (by assumption)))))))))))) | exact And.left (And.right (And.right (And.right (And.right (And.right (And.right (And.right (And.right (And.right (And.right (And.right (And.right (And.right (by assumption)))))))))))))) | exact And.right (And.right (And.right (And.right (And.right (And.right (And.right (And.right (And.right (And.right (And.right (And.right (And.right (by assumption)))))))))))))))
  (k_with "cj2" => (first | k_extra "cj" | exact Nat.lt_succ_of_lt (by k_extra "cj") | exact Nat.lt_succ_of_lt (Nat.lt_succ_of_lt (by k_extra "cj")) | exact Nat.lt_succ_self _))
  (k_with "om" => (first | (with_reducible assumption) | (with_reducible exact Nat.ne_of_gt (by k_extra "cj")) | (with_reducible exact Nat.ne_of_lt (by k_extra "cj")) | (with_reducible k_extra "cj2") | (with_reducible exact Nat.ne_of_lt (by k_extra "cj2")) | (with_reducible exact Nat.ne_of_gt (by k_extra "cj2")) | (with_reducible exact Ne.symm (by k_extra "cj")) | omega))
  (k_with "k_ne" => (refine neN ?_; (try dsimp only); k_extra "om"))
  trivial
section
variable {prog : Program} {w : World} {A : Around} {E : Value → Shared → Prop} {s : Shared} {h₀ : Heap} {L l : Addr} {m : Str → Option Value} {news : List (Addr × Obj)}
/-- sorted of a list of one or none -/
theorem sort_short {vs : List Value} {a : Addr} {n : Nat} {P : PySem.Fin → Shared → Prop} (F : Fr h₀ L s.heap m) (N : News h₀ L s.heap news) (ho : s.heap.get? a = some (seqObj "list" vs.toArray n)) (haL : a ≠ L) (ha0 : h₀.get? a = none) (hna : ∀ p ∈ news, p.1 ≠ a) (h2 : vs.length < 2)
    (h : ∀ h' c, Fr h₀ L h' m → News h₀ L h' ((a, listOf vs.toArray c) :: news) → P (.done (.ret .none)) { s with heap := h' }) :
    wpAny (model prog w) A (Builtin.«list.sort» ⟨[.ref a], []⟩) P E s := by
  have ha : a < s.heap.objs.size := Heap.lt_size ho
  have s1 := Heap.SameBut.update s.heap a (Obj.mapSeq fun _ => (#[] : Array Value))
  obtain ⟨e1, ho1⟩ : ∃ e1, (s.heap.update a (Obj.mapSeq fun _ => (#[] : Array Value))).get? a = some (seqObj "list" #[] e1) := ⟨_, get?_update_seq ho fun _ => #[]⟩
  rw [list_sort_plain]
  refine wpAny_bind (listItems_at ho rfl ?_)
  refine wpAny_bind (listUpdate_at ho rfl ?_ (by rw [List.size_toArray, sizeLine_eq]; omega) (Nat.zero_le _))
  refine wpAny_bind (seqEpoch_at ho1 rfl ?_)
  refine wpAny_bind (wpAny_newTuple ?_ (by show vs.length ≤ _; rw [sizeLine_eq]; omega))
  refine wpAny_bind (wpAny_newList ?_ (Nat.zero_le _))
  refine wpAny_holding ?_
  show wpAny (model prog w) A _ P E { s with heap := ((s.heap.update a (Obj.mapSeq fun _ => (#[] : Array Value))).push (seqObj "tuple" vs.toArray 0)).push (seqObj "list" #[] 0) }
  have h6 : (((s.heap.update a (Obj.mapSeq fun _ => (#[] : Array Value))).push (seqObj "tuple" vs.toArray 0)).push (seqObj "list" #[] 0)).get? a = some (seqObj "list" #[] e1) := Heap.get?_push_of_some _ (Heap.get?_push_of_some _ ho1)
  have F3 : Fr h₀ L (((s.heap.update a (Obj.mapSeq fun _ => (#[] : Array Value))).push (seqObj "tuple" vs.toArray 0)).push (seqObj "list" #[] 0)) m := ((kas_fr F s1 haL ha0).push _).push _
  have N3 : News h₀ L (((s.heap.update a (Obj.mapSeq fun _ => (#[] : Array Value))).push (seqObj "tuple" vs.toArray 0)).push (seqObj "list" #[] 0)) news :=
    (kas_news N s1 hna).grown fun b x e => Heap.get?_push_of_some _ (Heap.get?_push_of_some _ e)
  generalize (((s.heap.update a (Obj.mapSeq fun _ => (#[] : Array Value))).push (seqObj "tuple" vs.toArray 0)).push (seqObj "list" #[] 0)) = H at h6 F3 N3 ⊢
  dsimp only
  have hn2 : vs.toArray.size < 2 := by rw [List.size_toArray]; exact h2
  rw [if_pos hn2, if_pos hn2]
  refine wpAny_bind (wpAny_pure ?_)
  rw [StateT.run_pure]
  refine wpAny_bind (wpAny_pure ?_)
  dsimp only
  have s2 := Heap.SameBut.update H a (Obj.mapSeq fun _ => vs.toArray)
  obtain ⟨c2, hc2⟩ : ∃ c2, (H.update a (Obj.mapSeq fun _ => vs.toArray)).get? a = some (seqObj "list" vs.toArray c2) := ⟨_, get?_update_seq h6 fun _ => vs.toArray⟩
  have hout : (arrOf (SortSt.mk' general' (vs.toArray.zip vs.toArray) #[] 7 none)).map (·.2) = vs.toArray := by
    show (vs.toArray.zip vs.toArray).map (·.2) = vs.toArray
    simp only [List.zip_toArray, List.map_toArray]
    rw [List.map_snd_zip (Nat.le_refl _)]
  rw [hout]
  refine wpAny_bind (seqEpoch_at h6 rfl ?_)
  refine wpAny_bind (listUpdate_at h6 rfl ?_ (Nat.zero_le _) (by rw [List.size_toArray, sizeLine_eq]; omega))
  simp only [bne_self_eq_false, Bool.false_eq_true, if_false]
  refine wpAny_pure (h _ c2 (kas_fr F3 s2 haL ha0) fun p hp => ?_)
  rcases List.mem_cons.mp hp with rfl | hp
  · exact ⟨hc2, haL, ha0⟩
  · exact kas_news N3 s2 hna p hp
theorem sorted_short {vs : List Value} {n : Nat} {Q : Value → Shared → Prop} (F : Fr h₀ L s.heap m) (N : News h₀ L s.heap news) (hl : (l, listOf vs.toArray n) ∈ news) (h2 : vs.length < 2)
    (h : ∀ D c h', Fr h₀ L h' m → News h₀ L h' ((D, listOf vs.toArray c) :: news) → (∀ q ∈ news, q.1 < D) → Q (.ref D) { s with heap := h' }) :
    wpAny (model prog w) A (call (.builtin "sorted") [.ref l]) Q E s := by
  refine Calls.call_function_entry kind_sorted plain_sorted entry_sorted (args_sorted1 _) ?_
  unfold Builtin.«sorted»
  refine wpAny_bind (m := checkCount "sorted" 1 1 _) (wpAny_pure ?_)
  refine wpAny_bind (collect_list (isListOf (N _ hl).1) ?_ (by rw [sizeLine_eq]; omega))
  refine wpAny_bind (wpAny_newList ?_ (by rw [sizeLine_eq]; omega))
  have hsz : ((s.heap.push (seqObj "list" #[] 0)).update s.heap.objs.size (Obj.mapSeq (· ++ vs.toArray))).objs.size = s.heap.objs.size + 1 := by
    rw [Heap.size_update, size_push']
  have hoL : (((s.heap.push (seqObj "list" #[] 0)).update s.heap.objs.size (Obj.mapSeq (· ++ vs.toArray))).push (seqObj "list" vs.toArray 0)).get? (s.heap.objs.size + 1) = some (seqObj "list" vs.toArray 0) := by
    rw [← hsz]; exact Heap.get?_push_size _ rfl
  have keep : ∀ b o, s.heap.get? b = some o → (((s.heap.push (seqObj "list" #[] 0)).update s.heap.objs.size (Obj.mapSeq (· ++ vs.toArray))).push (seqObj "list" vs.toArray 0)).get? b = some o := fun b o q => by
    have hlt : b < s.heap.objs.size := Heap.lt_size q
    rw [Heap.get?_push_ne _ _ _ (by rw [hsz]; exact Nat.ne_of_lt (Nat.lt_succ_of_lt hlt)), Heap.get?_update_ne _ _ _ _ (Nat.ne_of_lt hlt), Heap.get?_push_ne _ _ _ (Nat.ne_of_lt hlt)]
    exact q
  have hL : L < s.heap.objs.size := F.ns.lt
  show wpAny _ _ _ _ _ { s with heap := ((s.heap.push (seqObj "list" #[] 0)).update s.heap.objs.size (Obj.mapSeq (· ++ vs.toArray))).push (seqObj "list" vs.toArray 0) }
  rw [hsz]
  refine wpAny_bind (wpAny_holding (wpAny_call_entry slot_list_sort ⟨_, hoL, rfl⟩ entry_list_sort ?body (args_list_sort _)))
  refine sort_short (s := { s with heap := ((s.heap.push (seqObj "list" #[] 0)).update s.heap.objs.size (Obj.mapSeq (· ++ vs.toArray))).push (seqObj "list" vs.toArray 0) })
    (F.kept keep) (N.grown keep) hoL (Nat.ne_of_gt (Nat.lt_succ_of_lt hL)) (Heap.get?_none_of_le (Nat.le_trans F.above (Nat.le_succ_of_le (Nat.le_of_lt hL))))
    (fun p hp => Nat.ne_of_lt (Nat.lt_succ_of_lt (Heap.lt_size (N p hp).1))) h2 fun h' c F' N' => ?_
  exact ⟨_, rfl, wpAny_pure ⟨_, rfl, h _ c h' F' N' fun q hq => Nat.lt_succ_of_lt (Heap.lt_size (N q hq).1)⟩⟩

theorem range_getD {α : Type} (xs : List α) (d : α) : (List.range xs.length).map (fun i => xs.getD i d) = xs := by
  apply List.ext_getElem (by simp)
  intro i h1 h2
  simp [List.getD_eq_getElem?_getD, h2]

/-- sorted, in a heap where the comparisons are known -/
theorem sorted_gen {α : Type} (d : α) (xs : List α) (f : α → Value) (lt : α → α → Bool) (κ : SortKind) {n : Nat} {Q : Value → Shared → Prop} (F : Fr h₀ L s.heap m) (N : News h₀ L s.heap news) (hl : (l, listOf (xs.map f).toArray n) ∈ news)
    (hkind : 0 < xs.length → ∀ (A' : Around) (s' : Shared) (C : SortKind → Shared → Prop), (∀ p ∈ news, s'.heap.get? p.1 = some p.2) → C κ s' → wpAny (model prog w) A' (keyKind' (xs.map f).toArray) C (fun _ _ => False) s')
    (hcmp : ∀ x y, x ∈ xs → y ∈ xs → ∀ (A' : Around) (s' : Shared) (C : Bool → Shared → Prop), (∀ p ∈ news, s'.heap.get? p.1 = some p.2) → C (lt x y) s' → wpAny (model prog w) A' (keyLt' κ (f x) (f y)) C (fun _ _ => False) s')
    (htri : xs.Pairwise fun x y => lt x y = !lt y x) (htrans : ∀ x y z, lt x y = true → lt y z = true → lt x z = true) (h64 : xs.length < 64)
    (h : ∀ D c h' (ys : List α), Fr h₀ L h' m → News h₀ L h' ((D, listOf (ys.map f).toArray c) :: news) → (∀ q ∈ news, q.1 < D) → ys.Perm xs → (ys.Pairwise fun x y => lt x y = true) → Q (.ref D) { s with heap := h' }) :
    wpAny (model prog w) A (call (.builtin "sorted") [.ref l]) Q E s := by
  rcases Nat.lt_or_ge xs.length 2 with hs | h2
  · refine sorted_short F N hl (by simpa using hs) fun D c h' F' N' lo => h D c h' xs F' N' lo (List.Perm.refl _) ?_
    match xs, hs with
    | [], _ => exact .nil
    | [x], _ => exact List.pairwise_singleton _ _
  · have hlen : (xs.map f).length = xs.length := by simp
    refine kat_sorted F N (isListOf (N _ hl).1) (by rw [hlen]; exact h2) (by rw [hlen]; exact h64) fun D e1 h' F' N' lo => ?_
    have inn : ∀ p ∈ news, h'.get? p.1 = some p.2 := fun p hp => (N' p (.tail _ hp)).1
    refine hkind (by omega) _ _ _ inn ?_
    rw [hlen]
    have O : LtOk (fun i j => lt (xs.getD i d) (xs.getD j d)) xs.length := ⟨fun i j hi hj hne => by
      have gi : xs.getD i d = xs[i] := by simp [List.getD_eq_getElem?_getD, hi]
      have gj : xs.getD j d = xs[j] := by simp [List.getD_eq_getElem?_getD, hj]
      rw [gi, gj]
      rcases Nat.lt_or_gt_of_ne hne with q | q
      · exact List.pairwise_iff_getElem.mp htri i j hi hj q
      · have := List.pairwise_iff_getElem.mp htri j i hj hi q
        rw [this]; simp, fun i j k _ _ _ => htrans _ _ _⟩
    obtain ⟨p, R, P, S⟩ := sort_run O h2
    refine R.wp (Inv := fun s' => s' = { s with heap := h' }) (fun i j C s' hi hj hne hs' hC => ?_) (fun s' hs' => ?_) _ rfl
    · subst hs'
      have gi : xs.getD i d = xs[i] := by simp [List.getD_eq_getElem?_getD, hi]
      have gj : xs.getD j d = xs[j] := by simp [List.getD_eq_getElem?_getD, hj]
      have vi : (xs.map f).getD i Value.none = f xs[i] := by simp [List.getD_eq_getElem?_getD, hi]
      have vj : (xs.map f).getD j Value.none = f xs[j] := by simp [List.getD_eq_getElem?_getD, hj]
      unfold kas_ask
      rw [vi, vj]
      have := hC _ rfl
      rw [gi, gj] at this
      exact hcmp _ _ (List.getElem_mem hi) (List.getElem_mem hj) _ _ _ inn this
    · subst hs'
      refine KasFin.intro F' N' (.head fun q hq => Nat.ne_of_lt (lo q hq)) fun h'' c F'' N'' => ?_
      have pl : p.toList.Perm (List.range xs.length) := P.perm.toList
      have em : p.toList.map (fun i => (xs.map f).getD i Value.none) = (p.toList.map fun i => xs.getD i d).map f := by
        rw [List.map_map]
        refine List.map_congr_left fun i hi => ?_
        have hi' : i < xs.length := List.mem_range.mp (pl.mem_iff.mp hi)
        simp [List.getD_eq_getElem?_getD, hi']
      rw [em] at N''
      refine h D c h'' _ F'' N'' lo ?_ ?_
      · have := pl.map (fun i => xs.getD i d)
        rw [range_getD] at this
        exact this
      · rw [List.pairwise_map, List.pairwise_iff_getElem]
        intro i j hi hj hij
        have hsz := P.size
        have hi' : i < xs.length := by rw [← hsz]; simpa using hi
        have hj' : j < xs.length := by rw [← hsz]; simpa using hj
        have := S i j hij hj'
        have ei : p.getD i 0 = p.toList[i] := by
          have : i < p.size := by rw [hsz]; exact hi'
          simp [Array.getD, this]
        have ej : p.getD j 0 = p.toList[j] := by
          have : j < p.size := by rw [hsz]; exact hj'
          simp [Array.getD, this]
        rw [ei, ej] at this
        exact this
end

end

section
open PySem PySem.W PyProof.Rows PySem.Calls PySem.Spec Builtin
theorem w_DK4 : True := by
  k_with_none
  (k_with "eval Name" => (k_here; k_dflt (refine' nameX_L (by k_asm) (by rfl) ?_ (by rfl) (by rfl); k_whole)))
  (k_with "cj" => (first | assumption | exact And.left (by assumption) | exact And.left (And.right (by assumption)) | exact And.right (by assumption) | exact And.left (And.right (And.right (by assumption))) | exact And.right (And.right (by assumption)) | exact And.left (And.right (And.right (And.right (by assumption)))) | exact And.right (And.right (And.right (by assumption))) | exact And.left (And.right (And.right (And.right (And.right (by assumption))))) | exact And.right (And.right (And.right (And.right (by assumption)))) | exact And.left (And.right (And.right (And.right (And.right (And.right (by assumption)))))) | exact And.right (And.right (And.right (And.right (And.right (by assumption))))) | exact And.left (And.right (And.right (And.right (And.right (And.right (And.right (by assumption))))))) | exact And.right (And.right (And.right (And.right (And.right (And.right (by assumption)))))) | exact And.left (And.right (And.right (And.right (And.right (And.right (And.right (And.right (by assumption)))))))) | exact And.right (And.right (And.right (And.right (And.right (And.right (And.right (by assumption))))))) | exact And.left (And.right (And.right (And.right (And.right (And.right (And.right (And.right (And.right (by assumption))))))))) | exact And.right (And.right (And.right (And.right (And.right (And.right (And.right (And.right (by assumption)))))))) | exact And.left (And.right (And.right (And.right (And.right (And.right (And.right (And.right (And.right (And.right (by assumption)))))))))) | exact And.right (And.right (And.right (And.right (And.right (And.right (And.right (And.right (And.right (by assumption))))))))) | exact And.left (And.right (And.right (And.right (And.right (And.right (And.right (And.right (And.right (And.right (And.right (by assumption))))))))))) | exact And.right (And.right (And.right (And.right (And.right (And.right (And.right (And.right (And.right (And.right (by assumption)))))))))) | exact And.left (And.right (And.right (And.right (And.right (And.right (And.right (And.right (And.right (And.right (And.right (And.right (by assumption)))))))))))) | exact And.right (And.right (And.right (And.right (And.right (And.right (And.right (And.right (And.right (And.right (And.right (by assumption))))))))))) | exact And.left (And.right (And.right (And.right (And.right (And.right (And.right (And.right (And.right (And.right (And.right (And.right (And.right (by assumption))))))))))))) | exact And.right (And.right (And.right (And.right (And.right (And.right (And.right (And.right (And.right (And.right (And.right (And.right (by assumption)))))))))))) | exact And.left (And.right (And.right (And.right (And.right (And.right (And.right (And.right (And.right (And.right (And.right (And.right (And.right (And.right (by assumption)))))))))))))) | exact And.right (And.right (And.right (And.right (And.right (And.right (And.right (And.right (And.right (And.right (And.right (And.right (And.right (by assumption)))))))))))))))
  (k_with "cj2" => (first | k_extra "cj" | exact Nat.lt_succ_of_lt (by k_extra "cj") | exact Nat.lt_succ_of_lt (Nat.lt_succ_of_lt (by k_extra "cj")) | exact Nat.lt_succ_self _))
  (k_with "om" => (first | (with_reducible assumption) | (with_reducible exact Nat.ne_of_gt (by k_extra "cj")) | (with_reducible exact Nat.ne_of_lt (by k_extra "cj")) | (with_reducible k_extra "cj2") | (with_reducible exact Nat.ne_of_lt (by k_extra "cj2")) | (with_reducible exact Nat.ne_of_gt (by k_extra "cj2")) | (with_reducible exact Ne.symm (by k_extra "cj")) | omega))
  (k_with "k_ne" => (refine neN ?_; (try dsimp only); k_extra "om"))
  trivial
section
variable {prog : Program} {w : World} {A : Around} {E : Value → Shared → Prop} {s : Shared} {h₀ : Heap} {L l : Addr} {m : Str → Option Value} {news : List (Addr × Obj)}
theorem tups_are {h : Heap} : ∀ {ts : List TRow}, (∀ t ∈ ts, h.get? t.a = some t.obj) → KatTups h (ts.map fun t => Value.ref t.a) (ts.map fun t => Value.bytes t.b t.t1)
  | [], _ => KatTups.nil
  | t :: ts, ht => KatTups.cons (ht t (.head _)) rfl rfl rfl (tups_are fun x hx => ht x (.tail _ hx))
theorem sorted_rows {ts : List TRow} {n : Nat} {Q : Value → Shared → Prop} (F : Fr h₀ L s.heap m) (N : News h₀ L s.heap news) (hl : (l, listOf (ts.map fun t => Value.ref t.a).toArray n) ∈ news) (ht : ∀ t ∈ ts, (t.a, t.obj) ∈ news)
    (hp : ts.Pairwise fun x y => x.p ≠ y.p) (h64 : ts.length < 64)
    (h : ∀ D c h' (us : List TRow), Fr h₀ L h' m → News h₀ L h' ((D, listOf (us.map fun t => Value.ref t.a).toArray c) :: news) → (∀ q ∈ news, q.1 < D) → us.Perm ts → (us.Pairwise fun x y => keyLt x.key y.key = true) → Q (.ref D) { s with heap := h' }) :
    wpAny (model prog w) A (call (.builtin "sorted") [.ref l]) Q E s := by
  refine sorted_gen default ts (fun t => Value.ref t.a) (fun x y => keyLt x.key y.key) (tuples' true) F N hl (fun hne A' s' C hin hC => ?_) (fun x y hx hy A' s' C hin hC => ?_) ?_ (fun x y z => keyLt_trans _ _ _) h64 h
  · refine kat_kind (T := .type "bytes") (tups_are fun t h => hin _ (ht t h)) (by simpa using hne) (fun v hv => ?_) (by decide) (show C (tuples' true) s' from hC)
    obtain ⟨t, _, rfl⟩ := List.mem_map.mp hv
    exact Looks.of_pure rfl
  · exact key_lt (hin _ (ht x hx)) (hin _ (ht y hy)) hC
  · exact hp.imp fun h => keyLt_tri _ _ h
end

end

theorem w_DC2 : True := by
  k_with_none
  (k_with "eval Name" => (k_here; k_dflt (refine' nameX_L (by k_asm) (by rfl) ?_ (by rfl) (by rfl); k_whole)))
  (k_with "cj" => (first | assumption | exact And.left (by assumption) | exact And.left (And.right (by assumption)) | exact And.right (by assumption) | exact And.left (And.right (And.right (by assumption))) | exact And.right (And.right (by assumption)) | exact And.left (And.right (And.right (And.right (by assumption)))) | exact And.right (And.right (And.right (by assumption))) | exact And.left (And.right (And.right (And.right (And.right (by assumption))))) | exact And.right (And.right (And.right (And.right (by assumption)))) | exact And.left (And.right (And.right (And.right (And.right (And.right (by assumption)))))) | exact And.right (And.right (And.right (And.right (And.right (by assumption))))) | exact And.left (And.right (And.right (And.right (And.right (And.right (And.right (by assumption))))))) | exact And.right (And.right (And.right (And.right (And.right (And.right (by assumption)))))) | exact And.left (And.right (And.right (And.right (And.right (And.right (And.right (And.right (by assumption)))))))) | exact And.right (And.right (And.right (And.right (And.right (And.right (And.right (by assumption))))))) | exact And.left (And.right (And.right (And.right (And.right (And.right (And.right (And.right (And.right (by assumption))))))))) | exact And.right (And.right (And.right (And.right (And.right (And.right (And.right (And.right (by assumption)))))))) | exact And.left (And.right (And.right (And.right (And.right (And.right (And.right (And.right (And.right (And.right (by assumption)))))))))) | exact And.right (And.right (And.right (And.right (And.right (And.right (And.right (And.right (And.right (by assumption))))))))) | exact And.left (And.right (And.right (And.right (And.right (And.right (And.right (And.right (And.right (And.right (And.right (by assumption))))))))))) | exact And.right (And.right (And.right (And.right (And.right (And.right (And.right (And.right (And.right (And.right (by assumption)))))))))) | exact And.left (And.right (And.right (And.right (And.right (And.right (And.right (And.right (And.right (And.right (And.right (And.right (by assumption)))))))))))) | exact And.right (And.right (And.right (And.right (And.right (And.right (And.right (And.right (And.right (And.right (And.right (by assumption))))))))))) | exact And.left (And.right (And.right (And.right (And.right (And.right (And.right (And.right (And.right (And.right (And.right (And.right (And.right (by assumption))))))))))))) | exact And.right (And.right (And.right (And.right (And.right (And.right (And.right (And.right (And.right (And.right (And.right (And.right (by assumption)))))))))))) | exact And.left (And.right (And.right (And.right (And.right (And.right (And.right (And.right (And.right (And.right (And.right (And.right (And.right (And.right (by assumption)))))))))))))) | exact And.right (And.right (And.right (And.right (And.right (And.right (And.right (And.right (And.right (And.right (And.right (And.right (And.right (by assumption)))))))))))))))
  (k_with "cj2" => (first | k_extra "cj" | exact Nat.lt_succ_of_lt (by k_extra "cj") | exact Nat.lt_succ_of_lt (Nat.lt_succ_of_lt (by k_extra "cj")) | exact Nat.lt_succ_self _))
  (k_with "om" => (first | (with_reducible assumption) | (with_reducible exact Nat.ne_of_gt (by k_extra "cj")) | (with_reducible exact Nat.ne_of_lt (by k_extra "cj")) | (with_reducible k_extra "cj2") | (with_reducible exact Nat.ne_of_lt (by k_extra "cj2")) | (with_reducible exact Nat.ne_of_gt (by k_extra "cj2")) | (with_reducible exact Ne.symm (by k_extra "cj")) | omega))
  (k_with "k_ne" => (refine neN ?_; (try dsimp only); k_extra "om"))
  trivial
theorem w_DC2_0 : True := by
  (k_with "m_enter" => (((have _ : PySem.Challenge.rw_pb0243_02 = PySem.Challenge.rw_pb0243_02 → hd02.heap_39 = hd02.heap_39 := by k_fill; exact fun _ => rfl); k_dflt (refine' enterM (binds := by k_extra "binds") (by k_asm) (by k_asm) (by k_asm) (by k_asm) (by k_asm) (by exact rfl) (by exact rfl) (by assumption) (by k_is) (by k_is) (by ktr_room) (by exact BindsTo.of_eq rfl) (by exact locs rfl) ?_ (by exact rfl) (by exact rfl) (by exact rfl) (by decide); k_whole; intro _ _ _ _ _ _ _ _ _ _; (try dsimp only [List.reverse_cons, List.reverse_nil, List.nil_append, List.cons_append, List.length_cons, List.length_nil]); (try k_fold)))))
  (k_with "m_end" => (((try dsimp only); (try k_unfold); (try dsimp only))))
  (k_with "call builtin:len" => ((k_here; (with_reducible show wpAny _ _ (call (Value.builtin "len") [Value.ref _]) _ _ _); (refine' m_len (by k_asm) (by k_mem) (by omega) ?_))))
  (k_with "subscriptTail" => ((k_here; (with_reducible show wpAny _ _ (subscriptTail _ _ (Value.ref _) (Value.int (Nat.cast _) _)) _ _ _); (refine' m_item (by k_asm) (by k_mem) (by assumption) (by omega) ?_))))
  (k_with "pyIter ref" => ((k_here; (rename LoopInv _ => hJ); (rename Fr _ _ _ _ => yF); (rename News _ _ _ _ => yN); (rename IsRange _ _ _ _ _ _ _ _ => rgX); (with_unfolding_all refine' loop_rangeM hJ (by rfl) (by rfl) rgX rfl yF yN ?_ ?_ ?_ ?_))))
  (k_with "TurnPost" => ((dsimp only [TurnPost])))
  (k_with "call ref" => ((k_here; (with_reducible show wpAny _ _ (call (Value.ref 89) [Value.ref _, Value.bytes _ _, Value.int _ _]) _ _ _); k_dflt (refine' MR.use (m_worth ?_ ?_) (by k_asm) (by k_asm) (by k_asm) (by k_asm) (by k_asm) (by first | exact rfl | assumption) (by assumption) (by assumption) (by k_mem) (by k_mem) (by k_mem) (by k_mem) (by ktr_room) (by ktr_units) True.intro ?_; (first | decide | assumption); assumption); rintro _ _ _ _ _ _ ⟨_, rfl⟩; (try k_sweep); (try k_fold))))
  (k_with "exec For Name Call cons nil" => ((refine hold_stop (by assumption) ?_)))
  (k_with "exec For Name Name cons nil" => ((refine hold_stop (by assumption) ?_)))
  (k_with "k_all" => (assumption))
  (k_with "call builtin:list.append" => ((k_here; (try dsimp only [List.nil_append, List.cons_append]); (with_reducible show wpAny _ _ (call (Value.builtin "list.append") [Value.ref _, _]) _ _ _); (refine' m_append (by k_asm) (by k_asm) (by k_upd) (by omega) ?_); intro _ _ _; (try k_sweep))))
  trivial
noncomputable abbrev row0 : Row := ⟨0, []⟩
noncomputable def keyAt (st : St) (wh : Int) (i : Nat) : Bytes × Int × Int := (worthB wh (st.cs.getD i default).1, (st.rows.getD i row0).v.getD wh.toNat 0, (i : Int))
theorem keyAt_eq {st : St} {wh : Int} {i : Nat} {rc : Bytes × Tok} {rr : Row} (hx : st.cs[i]? = some rc) (hy : st.rows[i]? = some rr) : keyAt st wh i = (worthB wh rc.1, rr.v.getD wh.toNat 0, (i : Int)) := by
  unfold keyAt
  have e1 : st.cs.getD i default = rc := by rw [List.getD_eq_getElem?_getD, hx]; rfl
  have e2 : st.rows.getD i row0 = rr := by rw [List.getD_eq_getElem?_getD, hy]; rfl
  rw [e1, e2]
theorem keys_apart {st : St} {wh : Int} {ts : List TRow} {k : Nat} (h : ts.map TRow.key = (List.range k).map (keyAt st wh)) : ts.Pairwise fun x y => x.p ≠ y.p := by
  have : (ts.map TRow.key).Pairwise fun x y => x.2.2 ≠ y.2.2 := by
    rw [h, List.pairwise_map]
    refine List.pairwise_lt_range.imp fun {a b} hab => ?_
    show ((a : Int) ≠ (b : Int))
    omega
  exact (List.pairwise_map (R := fun x y : Bytes × Int × Int => x.2.2 ≠ y.2.2)).mp this
abbrev TRow.ent (t : TRow) : Addr × Obj := (t.a, t.obj)
theorem turn_news {g h : Heap} {L : Addr} {it : Addr × Obj} {fA : Addr} {k : Nat} {ts : List TRow} {new : TRow} {R : List (Addr × Obj)}
    (N : News g L h (new.ent :: it :: (fA, listOf ((ts.map fun t => Value.ref t.a).toArray.push (.ref new.a)) k) :: (R ++ ts.map TRow.ent))) :
    News g L h (it :: (fA, listOf ((ts ++ [new]).map fun t => Value.ref t.a).toArray k) :: (R ++ (ts ++ [new]).map TRow.ent)) := fun p hp => by
  have e : ((ts ++ [new]).map fun t => Value.ref t.a).toArray = (ts.map fun t => Value.ref t.a).toArray.push (.ref new.a) := by simp
  rw [e, List.map_append] at hp
  rcases List.mem_cons.mp hp with rfl | hp
  · exact N _ (.tail _ (.head _))
  rcases List.mem_cons.mp hp with rfl | hp
  · exact N _ (.tail _ (.tail _ (.head _)))
  rcases List.mem_append.mp hp with hp | hp
  · exact N _ (.tail _ (.tail _ (.tail _ (List.mem_append_left _ hp))))
  rcases List.mem_append.mp hp with hp | hp
  · exact N _ (.tail _ (.tail _ (.tail _ (List.mem_append_right _ hp))))
  · rw [List.mem_singleton.mp hp]; exact N _ (.head _)
theorem all_snoc {α : Type} {P : α → Prop} {f : TRow → α} {ts : List TRow} {new : TRow} (h : ∀ p ∈ ts.map f, P p) (h' : P (f new)) : ∀ p ∈ (ts ++ [new]).map f, P p := fun p hp => by
  rw [List.map_append] at hp
  rcases List.mem_append.mp hp with hp | hp
  · exact h p hp
  · rw [List.mem_singleton.mp hp]; exact h'
theorem new_none {h g h' : Heap} {L : Addr} {news : List (Addr × Obj)} {adr : List Addr} {a : Addr} {o : Obj} (G : GSub h g adr) (N : News g L h' news) (hm : (a, o) ∈ news) (off : a ∉ adr) : h.get? a = none := by
  cases q : h.get? a with
  | none => rfl
  | some x =>
    have e1 := G a x q off
    have e2 := (N _ hm).2.2
    rw [e1] at e2; cases e2
theorem tup_off {g h' : Heap} {L : Addr} {news : List (Addr × Obj)} {w : World} {I : Ids} {st : St} {kt : Nat → Tok} {tm ta tn twh tl : Tok} {atv hi : Value} {nc ns : Nat} {a : Addr} {vs : List Value} (N : News g L h' news) (hm : (a, tupOf vs) ∈ news)
    (hs : ∀ p ∈ led4 w I st kt tm ta tn twh tl atv hi nc ns, p ∈ news) : a ∉ (led4 w I st kt tm ta tn twh tl atv hi nc ns).map (·.1) := fun q => by
  obtain ⟨p, hp, e⟩ := List.mem_map.mp q
  have e1 := (N _ (hs p hp)).1
  have e2 := (N _ hm).1
  rw [e] at e1
  have e3 : tupOf vs = p.2 := Option.some.inj (e2.symm.trans e1)
  have e4 : (tupOf vs).cls = p.2.cls := by rw [e3]
  rcases List.mem_cons.mp hp with rfl | hp
  · simp at e4
  rcases List.mem_cons.mp hp with rfl | hp
  · simp at e4
  rcases List.mem_cons.mp hp with rfl | hp
  · simp at e4
  rcases List.mem_cons.mp hp with rfl | hp
  · simp at e4
  cases hp
/-- the rows of the file in order -/
noncomputable def Sorted (st : St) (wh : Int) (us : List TRow) : Prop := (us.map TRow.key).Perm ((List.range st.cs.length).map (keyAt st wh)) ∧ us.Pairwise fun x y => keyLt x.key y.key = true

theorem m_ordered {w : World} {I : Ids} {st : St} {atv : Value} {wh : Int} {tw : Tok} (hw : wh = 0 ∨ wh = 1) (h60 : st.cs.length < 60) :
    MR w I 96 6 60 [.ref I.x, .int wh tw] st atv (fun _ => True) (fun h v h' => ∃ D c us, v = .ref D ∧ h'.get? D = some (listOf (us.map fun t => Value.ref t.a).toArray c) ∧ h.get? D = none ∧ (∀ t ∈ us, h'.get? t.a = some t.obj ∧ h.get? t.a = none) ∧ Sorted st wh us) := by
  constructor
  intro p loose mean mg mb dp un gd cn cs a ccd cl outer A₀ base h₀ L m led s Q E B F X N T hk hd hu KF _ hret
  obtain ⟨kt, tm, ta, tn, twh, tl, hi, nc, ns, rfl, ok, fx⟩ := id KF
  (k_with "binds" => exact ([(Str.ofString "self", .ref I.x), (Str.ofString "which", .int wh tw)]))
  k_extra "m_enter"
  rename_i g L₁ h₁ FG F₁ N₁ B₁ X₁ T₁ G
  have fxg := fx.keeps (gsub_hide G)
  have hlen := fxg.len
  have hrl := fxg.rlen
  have hS : StopFor := ⟨⟩
  k_steps
  unfold Hold
  clear hS
  rename_i fA h3 l1 h4 F4 N4
  have hJ : LoopInv (fun i nx => ∃ (ts : List TRow) (n' : Nat), nx = (fA, listOf (ts.map fun t => Value.ref t.a).toArray n') :: led4T w I st kt tm ta tn twh tl atv hi nc ns (ts.map TRow.ent) ∧
    ts.map TRow.key = (List.range i).map (keyAt st wh) ∧ ∀ p ∈ ts.map TRow.ent, p.1 ≠ fA) := ⟨⟩
  k_steps
  · exact ⟨[], 0, rfl, rfl, fun _ h => nomatch h⟩
  · unfold Hold
    rintro I' i ti _ h2 tk2 itO hi' hne ⟨ts, n', rfl, hts, hfa⟩ F2 N2
    have hx : st.cs[i]? = some st.cs[i] := List.getElem?_eq_getElem hi'
    have hy : st.rows[i]? = some (st.rows[i]'(by k_extra "om")) := List.getElem?_eq_getElem (by k_extra "om")
    have hbs := fxg.size _ (List.mem_of_getElem? hx)
    have hr3 := fxg.rv3 _ (List.mem_of_getElem? hy)
    obtain ⟨vs, nr, er, ir⟩ := fxg.rows _ (List.mem_of_getElem? hy)
    generalize st.cs[i] = rc at hx hbs
    generalize st.rows[i]'(by k_extra "om") = rr at hy hr3 er ir
    have lk := isListOf er
    have hI1 : @Ne Nat fA I' := hne (fA, _) (.head _)
    have hI2 : ∀ p ∈ ts.map TRow.ent, p.1 ≠ I' := fun p hp => hne p (.tail _ (.tail _ (.tail _ (.tail _ (.tail _ hp)))))
    have hwn : 0 ≤ wh ∧ wh < 2 := by omega
    have htl : ts.length = i := by have := congrArg List.length hts; simpa using this
    k_steps
    with_reducible rename Fr _ _ _ _ => mF
    with_reducible rename News _ _ _ _ => mN
    with_reducible rename _ < _ ∧ _ => l2
    refine ⟨_, _, _, (fA, _) :: led4T w I st kt tm ta tn twh tl atv hi nc ns _, rfl, mF, turn_news (R := led4 w I st kt tm ta tn twh tl atv hi nc ns) (new := ⟨_, _, _, _, _, _, _⟩) mN, ?_, fun z hz => if_neg hz, _, _, rfl, ?_, ?_⟩
    · intro p hp
      rcases List.mem_cons.mp hp with rfl | hp
      · exact hI1
      rcases List.mem_append.mp (show p ∈ led4 w I st kt tm ta tn twh tl atv hi nc ns ++ _ from hp) with hp | hp
      · exact hne p (.tail _ (List.mem_append_left (as := led4 w I st kt tm ta tn twh tl atv hi nc ns) _ hp))
      · exact all_snoc hI2 (Nat.ne_of_gt l2.1) p hp
    · rw [List.map_append, hts, List.range_succ, List.map_append, List.map_singleton, List.map_singleton, keyAt_eq hx hy]; rfl
    · exact all_snoc hfa (Nat.ne_of_gt l2.2.1)
  · unfold Hold
    rintro u _ h2 tk2 ⟨ts, n', rfl, hts, hfa⟩ F2 N2
    k_steps
    refine sorted_rows F2 N2 (.head _) (fun t ht => List.mem_cons_of_mem _ (List.mem_append_right (led4 w I st kt tm ta tn twh tl atv hi nc ns) (List.mem_map_of_mem ht))) (keys_apart hts) (by have := congrArg List.length hts; rw [List.length_map, List.length_map, List.length_range] at this; omega) ?_
    intro D c h5 us F5 N5 lo pu su
    k_extra "m_end"
    have k := keep_all N G F5 (led := led4 w I st kt tm ta tn twh tl atv hi nc ns) (fun p hp => N5 p (.tail _ (.tail _ (List.mem_append_left _ hp))))
    have inl : ∀ p ∈ led4 w I st kt tm ta tn twh tl atv hi nc ns, p ∈ (fA, listOf (ts.map fun t => Value.ref t.a).toArray n') :: led4T w I st kt tm ta tn twh tl atv hi nc ns (ts.map TRow.ent) := fun p hp => .tail _ (List.mem_append_left _ hp)
    have hD : s.heap.get? D = none := new_none G N5 (.head _) fun q => by
      obtain ⟨p, hp, e⟩ := List.mem_map.mp q
      exact Nat.lt_irrefl _ (e ▸ lo p (inl p hp))
    have hts2 : ∀ t ∈ us, (t.a, t.obj) ∈ (D, listOf (us.map fun t => Value.ref t.a).toArray c) :: (fA, listOf (ts.map fun t => Value.ref t.a).toArray n') :: led4T w I st kt tm ta tn twh tl atv hi nc ns (ts.map TRow.ent) := fun t ht =>
      .tail _ (.tail _ (List.mem_append_right (led4 w I st kt tm ta tn twh tl atv hi nc ns) (List.mem_map_of_mem (f := TRow.ent) (pu.mem_iff.mp ht))))
    refine ⟨_, _, F5, hret _ _ _ (Fr.back FG F5) k ⟨D, c, us, rfl, (N5 _ (.head _)).1, hD, fun t ht => ⟨(N5 _ (hts2 t ht)).1, new_none G N5 (hts2 t ht) (tup_off N5 (hts2 t ht) fun p hp => .tail _ (inl p hp))⟩, ?_, su⟩⟩
    rw [← hts]
    exact pu.map _

theorem w_DC3 : True := by
  k_with_none
  (k_with "eval Name" => (k_here; k_dflt (refine' nameX_L (by k_asm) (by rfl) ?_ (by rfl) (by rfl); k_whole)))
  (k_with "cj" => (first | assumption | exact And.left (by assumption) | exact And.left (And.right (by assumption)) | exact And.right (by assumption) | exact And.left (And.right (And.right (by assumption))) | exact And.right (And.right (by assumption)) | exact And.left (And.right (And.right (And.right (by assumption)))) | exact And.right (And.right (And.right (by assumption))) | exact And.left (And.right (And.right (And.right (And.right (by assumption))))) | exact And.right (And.right (And.right (And.right (by assumption)))) | exact And.left (And.right (And.right (And.right (And.right (And.right (by assumption)))))) | exact And.right (And.right (And.right (And.right (And.right (by assumption))))) | exact And.left (And.right (And.right (And.right (And.right (And.right (And.right (by assumption))))))) | exact And.right (And.right (And.right (And.right (And.right (And.right (by assumption)))))) | exact And.left (And.right (And.right (And.right (And.right (And.right (And.right (And.right (by assumption)))))))) | exact And.right (And.right (And.right (And.right (And.right (And.right (And.right (by assumption))))))) | exact And.left (And.right (And.right (And.right (And.right (And.right (And.right (And.right (And.right (by assumption))))))))) | exact And.right (And.right (And.right (And.right (And.right (And.right (And.right (And.right (by assumption)))))))) | exact And.left (And.right (And.right (And.right (And.right (And.right (And.right (And.right (And.right (And.right (by assumption)))))))))) | exact And.right (And.right (And.right (And.right (And.right (And.right (And.right (And.right (And.right (by assumption))))))))) | exact And.left (And.right (And.right (And.right (And.right (And.right (And.right (And.right (And.right (And.right (And.right (by assumption))))))))))) | exact And.right (And.right (And.right (And.right (And.right (And.right (And.right (And.right (And.right (And.right (by assumption)))))))))) | exact And.left (And.right (And.right (And.right (And.right (And.right (And.right (And.right (And.right (And.right (And.right (And.right (by assumption)))))))))))) | exact And.right (And.right (And.right (And.right (And.right (And.right (And.right (And.right (And.right (And.right (And.right (by assumption))))))))))) | exact And.left (And.right (And.right (And.right (And.right (And.right (And.right (And.right (And.right (And.right (And.right (And.right (And.right (by assumption))))))))))))) | exact And.right (And.right (And.right (And.right (And.right (And.right (And.right (And.right (And.right (And.right (And.right (And.right (by assumption)))))))))))) | exact And.left (And.right (And.right (And.right (And.right (And.right (And.right (And.right (And.right (And.right (And.right (And.right (And.right (And.right (by assumption)))))))))))))) | exact And.right (And.right (And.right (And.right (And.right (And.right (And.right (And.right (And.right (And.right (And.right (And.right (And.right (by assumption)))))))))))))))
  (k_with "cj2" => (first | k_extra "cj" | exact Nat.lt_succ_of_lt (by k_extra "cj") | exact Nat.lt_succ_of_lt (Nat.lt_succ_of_lt (by k_extra "cj")) | exact Nat.lt_succ_self _))
  (k_with "om" => (first | (with_reducible assumption) | (with_reducible exact Nat.ne_of_gt (by k_extra "cj")) | (with_reducible exact Nat.ne_of_lt (by k_extra "cj")) | (with_reducible k_extra "cj2") | (with_reducible exact Nat.ne_of_lt (by k_extra "cj2")) | (with_reducible exact Nat.ne_of_gt (by k_extra "cj2")) | (with_reducible exact Ne.symm (by k_extra "cj")) | omega))
  (k_with "k_ne" => (refine neN ?_; (try dsimp only); k_extra "om"))
  trivial
theorem w_DC3_0 : True := by
  (k_with "m_enter" => (((have _ : PySem.Challenge.rw_pb0243_02 = PySem.Challenge.rw_pb0243_02 → hd02.heap_39 = hd02.heap_39 := by k_fill; exact fun _ => rfl); k_dflt (refine' enterM (binds := by k_extra "binds") (by k_asm) (by k_asm) (by k_asm) (by k_asm) (by k_asm) (by exact rfl) (by exact rfl) (by assumption) (by k_is) (by k_is) (by ktr_room) (by exact BindsTo.of_eq rfl) (by exact locs rfl) ?_ (by exact rfl) (by exact rfl) (by exact rfl) (by decide); k_whole; intro _ _ _ _ _ _ _ _ _ _; (try dsimp only [List.reverse_cons, List.reverse_nil, List.nil_append, List.cons_append, List.length_cons, List.length_nil]); (try k_fold)))))
  (k_with "m_end" => ((iterate 4 (first | (k_unfold; (try dsimp only)) | dsimp only | skip))))
  (k_with "call builtin:len" => ((k_here; (with_reducible show wpAny _ _ (call (Value.builtin "len") [Value.ref _]) _ _ _); (refine' m_len (by k_asm) (by k_mem) (by omega) ?_))))
  (k_with "subscriptTail" => ((k_here; (with_reducible show wpAny _ _ (subscriptTail _ _ (Value.ref _) (Value.int (Nat.cast _) _)) _ _ _); (refine' m_item (by k_asm) (by k_mem) (by assumption) (by omega) ?_))))
  (k_with "pyIter ref" => ((k_here; (rename LoopInv _ => hJ); (rename Fr _ _ _ _ => yF); (rename News _ _ _ _ => yN); (rename IsRange _ _ _ _ _ _ _ _ => rgX); (with_unfolding_all refine' loop_rangeM hJ (by rfl) (by rfl) rgX rfl yF yN ?_ ?_ ?_ ?_))))
  (k_with "TurnPost" => ((dsimp only [TurnPost])))
  (k_with "call ref" => ((k_here; (with_reducible show wpAny _ _ (call (Value.ref 89) [Value.ref _, Value.bytes _ _, Value.int _ _]) _ _ _); k_dflt (refine' MR.use (m_worth ?_ ?_) (by k_asm) (by k_asm) (by k_asm) (by k_asm) (by k_asm) (by first | exact rfl | assumption) (by assumption) (by assumption) (by k_mem) (by k_mem) (by k_mem) (by k_mem) (by ktr_room) (by ktr_units) True.intro ?_; (first | decide | assumption); assumption); rintro _ _ _ _ _ _ ⟨_, rfl⟩; (try k_sweep); (try k_fold))))
  (k_with "exec For Name Call cons nil" => ((refine hold_stop (by assumption) ?_)))
  (k_with "exec For Name Name cons nil" => ((refine hold_stop (by assumption) ?_)))
  (k_with "k_all" => (assumption))
  (k_with "call builtin:list.append" => ((k_here; (try dsimp only [List.nil_append, List.cons_append]); (with_reducible show wpAny _ _ (call (Value.builtin "list.append") [Value.ref _, _]) _ _ _); (refine' m_append (by k_asm) (by k_asm) (by k_upd) (by omega) ?_); intro _ _ _; (try k_sweep))))
  (k_with "call builtin:list.pop" => ((k_here; (try dsimp only [List.nil_append, List.cons_append]); (with_reducible show wpAny _ _ (call (Value.builtin "list.pop") [Value.ref _, Value.int (Nat.cast _) _]) _ _ _); (refine' m_popAt (by k_asm) (by k_asm) (by k_upd) (by assumption) (by omega) ?_); intro _ _ _; (try k_sweep))))
  trivial
theorem tup_off2 {g h' : Heap} {L : Addr} {news : List (Addr × Obj)} {adr : List Addr} {a : Addr} {vs : List Value} (N : News g L h' news) (hm : (a, tupOf vs) ∈ news)
    (hs : ∀ b ∈ adr, ∃ o, (b, o) ∈ news ∧ o.cls ≠ .type "tuple") : a ∉ adr := fun q => by
  obtain ⟨o, h1, h2⟩ := hs a q
  have e1 := (N _ h1).1
  have e2 := (N _ hm).1
  rw [e2] at e1
  have e3 : tupOf vs = o := Option.some.inj e1
  exact h2 (by rw [← e3])
theorem Fx.same {h : Heap} {I : Ids} {st st' : St} (x : Fx h I st) (h1 : st'.cs = st.cs) (h2 : st'.rows = st.rows) (h3 : st'.which = 0 ∨ st'.which = 1) : Fx h I st' :=
  ⟨x.keys, h2 ▸ x.rows, h1 ▸ x.size, h1 ▸ x.len, by rw [h1, h2]; exact x.rlen, h2 ▸ x.rv3, h3⟩

theorem Fx.drop {h : Heap} {I : Ids} {st : St} (x : Fx h I st) {i : Nat} (hi : i < st.cs.length) : Fx h I { st with cs := st.cs.eraseIdx i, rows := st.rows.eraseIdx i } :=
  ⟨x.keys, fun r hr => x.rows r (List.mem_of_mem_eraseIdx hr), fun r hr => x.size r (List.mem_of_mem_eraseIdx hr), by
    have h1 := x.len
    have h2 : (st.cs.eraseIdx i).length ≤ st.cs.length := List.length_eraseIdx_le ..
    exact Nat.le_trans h2 h1, by
    have h1 := x.rlen
    show (st.rows.eraseIdx i).length = (st.cs.eraseIdx i).length
    rw [List.length_eraseIdx_of_lt hi, List.length_eraseIdx_of_lt (by k_extra "om"), h1], fun r hr => x.rv3 r (List.mem_of_mem_eraseIdx hr), x.wh⟩

theorem m_stand {w : World} {I : Ids} {st : St} {atv : Value} {wh : Int} {tw : Tok} {tA : Addr} (hw : wh = 0 ∨ wh = 1) :
    MC w I 117 3 30 [.ref I.x, .int wh tw, .ref tA] st atv (fun _ => True) (fun _ v st' atv' _ => v = .none ∧ st' = { st with which := wh, nowhere := false } ∧ atv' = .ref tA) := by
  constructor
  intro p loose mean mg mb dp un gd cn cs a ccd cl outer A₀ base h₀ L m led s Q E B F X N T hk hd hu KF _ hret
  obtain ⟨kt, tm, ta, tn, twh, tl, hi, nc, ns, rfl, ok, fx⟩ := id KF
  (k_with "binds" => exact ([(Str.ofString "self", .ref I.x), (Str.ofString "which", .int wh tw), (Str.ofString "at", .ref tA)]))
  k_extra "m_enter"
  rename_i g L₁ h₁ FG F₁ N₁ B₁ X₁ T₁ G
  have n1 := ok.n1
  have n4 := ok.n4
  have n5 := ok.n5
  k_steps
  k_extra "m_end"
  with_reducible rename Fr _ _ _ _ => mF
  with_reducible rename News _ _ _ _ => mN
  refine ⟨_, _, mF, hret _ { st with which := wh, nowhere := false } _ _ _ _ (Fr.back FG mF) (News.back FG mN) (keep_back G mF) ⟨kt, tm, ta, tn, _, tl, hi, nc, ns, rfl, ok, Fx.same (fx.keeps (gsub_hide2 (keep_back G mF))) rfl rfl hw⟩ ⟨rfl, rfl, rfl⟩⟩

theorem m_lose {w : World} {I : Ids} {st : St} {atv : Value} {x : Str} {tx : Tok} :
    MC w I 124 3 30 [.ref I.x, .str x tx] st atv (fun _ => True) (fun h v st' atv' h' => (∃ a t1 t2, v = .ref a ∧ h'.get? a = some (tupOf [.str x t1, .bytes #[] t2]) ∧ h.get? a = none) ∧ st' = { st with nowhere := true, last := -1 } ∧ atv' = atv) := by
  constructor
  intro p loose mean mg mb dp un gd cn cs a ccd cl outer A₀ base h₀ L m led s Q E B F X N T hk hd hu KF _ hret
  obtain ⟨kt, tm, ta, tn, twh, tl, hi, nc, ns, rfl, ok, fx⟩ := id KF
  (k_with "binds" => exact ([(Str.ofString "self", .ref I.x), (Str.ofString "status", .str x tx)]))
  k_extra "m_enter"
  rename_i g L₁ h₁ FG F₁ N₁ B₁ X₁ T₁ G
  have n1 := ok.n1
  have n4 := ok.n4
  have n5 := ok.n5
  k_steps
  k_extra "m_end"
  with_reducible rename Fr _ _ _ _ => mF
  with_reducible rename News _ _ _ _ => mN
  exact ⟨_, _, mF, hret _ { st with nowhere := true, last := -1 } _ _ _ _ (Fr.back FG mF) (News.back FG (fun p hp => mN p (.tail _ hp))) (keep_back G mF) ⟨kt, tm, ta, tn, twh, _, hi, nc, ns, rfl, ok, Fx.same (fx.keeps (gsub_hide2 (keep_back G mF))) rfl rfl fx.wh⟩
    ⟨⟨_, _, _, rfl, (mN _ (.head _)).1, new_none G mN (.head _) (tup_off2 (vs := [_, _]) mN (.head _) fun a ha => by
      rcases List.mem_cons.mp ha with rfl | ha
      · exact ⟨_, .tail _ (.head _), by simp⟩
      rcases List.mem_cons.mp ha with rfl | ha
      · exact ⟨_, .tail _ (.tail _ (.head _)), by simp⟩
      rcases List.mem_cons.mp ha with rfl | ha
      · exact ⟨_, .tail _ (.tail _ (.tail _ (.head _))), by simp⟩
      rcases List.mem_cons.mp ha with rfl | ha
      · exact ⟨_, .tail _ (.tail _ (.tail _ (.tail _ (.head _)))), by simp⟩
      cases ha)⟩, rfl, rfl⟩⟩

theorem m_drop {w : World} {I : Ids} {st : St} {atv : Value} {i : Nat} {ti : Tok} (hi' : i < st.cs.length) :
    MC w I 164 3 30 [.ref I.x, .int (i : Int) ti] st atv (fun _ => True) (fun h v st' atv' h' => v = .none ∧ st' = { st with cs := st.cs.eraseIdx i, rows := st.rows.eraseIdx i } ∧ atv' = atv) := by
  constructor
  intro p loose mean mg mb dp un gd cn cs a ccd cl outer A₀ base h₀ L m led s Q E B F X N T hk hd hu KF _ hret
  obtain ⟨kt, tm, ta, tn, twh, tl, hi, nc, ns, rfl, ok, fx⟩ := id KF
  (k_with "binds" => exact ([(Str.ofString "self", .ref I.x), (Str.ofString "place", .int (i : Int) ti)]))
  k_extra "m_enter"
  rename_i g L₁ h₁ FG F₁ N₁ B₁ X₁ T₁ G
  have n1 := ok.n1
  have n2 := ok.n2
  have n3 := ok.n3
  have n4 := ok.n4
  have n5 := ok.n5
  have n6 := ok.n6
  have hlen := fx.len
  have hrl := fx.rlen
  have hx : st.cs[i]? = some st.cs[i] := List.getElem?_eq_getElem hi'
  have hy : st.rows[i]? = some (st.rows[i]'(by k_extra "om")) := List.getElem?_eq_getElem (by k_extra "om")
  generalize st.cs[i] = rc at hx
  generalize st.rows[i]'(by k_extra "om") = rr at hy
  k_steps
  k_extra "m_end"
  with_reducible rename Fr _ _ _ _ => mF
  with_reducible rename News _ _ _ _ => mN
  exact ⟨_, _, mF, hret _ { st with cs := st.cs.eraseIdx i, rows := st.rows.eraseIdx i } _ _ _ _ (Fr.back FG mF) (News.back FG mN) (keep_back G mF) ⟨kt, tm, ta, tn, twh, _, hi, _, _, rfl, ok, Fx.drop (fx.keeps (gsub_hide2 (keep_back G mF))) hi'⟩ ⟨rfl, rfl, rfl⟩⟩

theorem w_DC4 : True := by
  k_with_none
  (k_with "eval Name" => (k_here; k_dflt (refine' nameX_L (by k_asm) (by rfl) ?_ (by rfl) (by rfl); k_whole)))
  (k_with "cj" => (first | assumption | exact And.left (by assumption) | exact And.left (And.right (by assumption)) | exact And.right (by assumption) | exact And.left (And.right (And.right (by assumption))) | exact And.right (And.right (by assumption)) | exact And.left (And.right (And.right (And.right (by assumption)))) | exact And.right (And.right (And.right (by assumption))) | exact And.left (And.right (And.right (And.right (And.right (by assumption))))) | exact And.right (And.right (And.right (And.right (by assumption)))) | exact And.left (And.right (And.right (And.right (And.right (And.right (by assumption)))))) | exact And.right (And.right (And.right (And.right (And.right (by assumption))))) | exact And.left (And.right (And.right (And.right (And.right (And.right (And.right (by assumption))))))) | exact And.right (And.right (And.right (And.right (And.right (And.right (by assumption)))))) | exact And.left (And.right (And.right (And.right (And.right (And.right (And.right (And.right (by assumption)))))))) | exact And.right (And.right (And.right (And.right (And.right (And.right (And.right (by assumption))))))) | exact And.left (And.right (And.right (And.right (And.right (And.right (And.right (And.right (And.right (by assumption))))))))) | exact And.right (And.right (And.right (And.right (And.right (And.right (And.right (And.right (by assumption)))))))) | exact And.left (And.right (And.right (And.right (And.right (And.right (And.right (And.right (And.right (And.right (by assumption)))))))))) | exact And.right (And.right (And.right (And.right (And.right (And.right (And.right (And.right (And.right (by assumption))))))))) | exact And.left (And.right (And.right (And.right (And.right (And.right (And.right (And.right (And.right (And.right (And.right (by assumption))))))))))) | exact And.right (And.right (And.right (And.right (And.right (And.right (And.right (And.right (And.right (And.right (by assumption)))))))))) | exact And.left (And.right (And.right (And.right (And.right (And.right (And.right (And.right (And.right (And.right (And.right (And.right (by assumption)))))))))))) | exact And.right (And.right (And.right (And.right (And.right (And.right (And.right (And.right (And.right (And.right (And.right (by assumption))))))))))) | exact And.left (And.right (And.right (And.right (And.right (And.right (And.right (And.right (And.right (And.right (And.right (And.right (And.right (by assumption))))))))))))) | exact And.right (And.right (And.right (And.right (And.right (And.right (And.right (And.right (And.right (And.right (And.right (And.right (by assumption)))))))))))) | exact And.left (And.right (And.right (And.right (And.right (And.right (And.right (And.right (And.right (And.right (And.right (And.right (And.right (And.right (by assumption)))))))))))))) | exact And.right (And.right (And.right (And.right (And.right (And.right (And.right (And.right (And.right (And.right (And.right (And.right (And.right (by assumption)))))))))))))))
  (k_with "cj2" => (first | k_extra "cj" | exact Nat.lt_succ_of_lt (by k_extra "cj") | exact Nat.lt_succ_of_lt (Nat.lt_succ_of_lt (by k_extra "cj")) | exact Nat.lt_succ_self _))
  (k_with "om" => (first | (with_reducible assumption) | (with_reducible exact Nat.ne_of_gt (by k_extra "cj")) | (with_reducible exact Nat.ne_of_lt (by k_extra "cj")) | (with_reducible k_extra "cj2") | (with_reducible exact Nat.ne_of_lt (by k_extra "cj2")) | (with_reducible exact Nat.ne_of_gt (by k_extra "cj2")) | (with_reducible exact Ne.symm (by k_extra "cj")) | omega))
  (k_with "k_ne" => (refine neN ?_; (try dsimp only); k_extra "om"))
  trivial
theorem w_DC4_0 : True := by
  (k_with "m_enter" => (((have _ : PySem.Challenge.rw_pb0243_02 = PySem.Challenge.rw_pb0243_02 → hd02.heap_39 = hd02.heap_39 := by k_fill; exact fun _ => rfl); k_dflt (refine' enterM (binds := by k_extra "binds") (by k_asm) (by k_asm) (by k_asm) (by k_asm) (by k_asm) (by exact rfl) (by exact rfl) (by assumption) (by k_is) (by k_is) (by ktr_room) (by exact BindsTo.of_eq rfl) (by exact locs rfl) ?_ (by exact rfl) (by exact rfl) (by exact rfl) (by decide); k_whole; intro _ _ _ _ _ _ _ _ _ _; (try dsimp only [List.reverse_cons, List.reverse_nil, List.nil_append, List.cons_append, List.length_cons, List.length_nil]); (try k_fold)))))
  (k_with "m_end" => ((iterate 4 (first | (k_unfold; (try dsimp only)) | dsimp only | skip))))
  (k_with "call builtin:len" => ((k_here; (with_reducible show wpAny _ _ (call (Value.builtin "len") [Value.ref _]) _ _ _); (refine' m_len (by k_asm) (by k_mem) (by omega) ?_))))
  (k_with "subscriptTail" => ((k_here; (with_reducible show wpAny _ _ (subscriptTail _ _ (Value.ref _) (Value.int (Nat.cast _) _)) _ _ _); (refine' m_item (by k_asm) (by k_mem) (by assumption) (by omega) ?_))))
  (k_with "pyIter ref" => ((k_here; (rename LoopInv _ => hJ); (rename Fr _ _ _ _ => yF); (rename News _ _ _ _ => yN); (rename IsRange _ _ _ _ _ _ _ _ => rgX); (with_unfolding_all refine' loop_rangeM hJ (by rfl) (by rfl) rgX rfl yF yN ?_ ?_ ?_ ?_))))
  (k_with "TurnPost" => ((dsimp only [TurnPost])))
  (k_with "call ref" => ((k_here; (with_reducible show wpAny _ _ (call (Value.ref 89) [Value.ref _, Value.bytes _ _, Value.int _ _]) _ _ _); k_dflt (refine' MR.use (m_worth ?_ ?_) (by k_asm) (by k_asm) (by k_asm) (by k_asm) (by k_asm) (by first | exact rfl | assumption) (by assumption) (by assumption) (by k_mem) (by k_mem) (by k_mem) (by k_mem) (by ktr_room) (by ktr_units) True.intro ?_; (first | decide | assumption); assumption); rintro _ _ _ _ _ _ ⟨_, rfl⟩; (try k_sweep); (try k_fold))))
  (k_with "exec For Name Call cons nil" => ((refine hold_stop (by assumption) ?_)))
  (k_with "exec For Name Name cons nil" => ((refine hold_stop (by assumption) ?_)))
  (k_with "k_all" => (assumption))
  (k_with "call builtin:list.append" => ((k_here; (try dsimp only [List.nil_append, List.cons_append]); (with_reducible show wpAny _ _ (call (Value.builtin "list.append") [Value.ref _, _]) _ _ _); (refine' m_append (by k_asm) (by k_asm) (by k_upd) (by omega) ?_); intro _ _ _; (try k_sweep))))
  (k_with "call builtin:list.pop" => ((k_here; (try dsimp only [List.nil_append, List.cons_append]); (with_reducible show wpAny _ _ (call (Value.builtin "list.pop") [Value.ref _, Value.int (Nat.cast _) _]) _ _ _); (refine' m_popAt (by k_asm) (by k_asm) (by k_upd) (by assumption) (by omega) ?_); intro _ _ _; (try k_sweep))))
  (k_with "eval ListComp" => ((k_here; (rename CompInv _ => hJ); k_dflt (first | (refine PyProof.Rows.LCg.ListComp_U (F₀ := by k_asm) (by with_unfolding_all rfl) (by decide) (by rfl) (by decide) (by rfl) ?_) | (refine PyProof.Rows.LCt.ListComp_T (F₀ := by k_asm) (by with_unfolding_all rfl) (by decide) (by rfl) (by decide) (by rfl) ?_)))))
  (k_with "exec Assign cons ListComp" => ((k_here; (rename CompInv _ => hJ); k_dflt (first | (refine PyProof.Rows.LCg.Assign_ListComp_U (F₀ := by k_asm) (by rfl) (by with_unfolding_all rfl) (by with_unfolding_all rfl) (by decide) (by rfl) (by decide) (by rfl) (by rfl) (by rfl) ?_) | (refine PyProof.Rows.LCt.Assign_ListComp_T (F₀ := by k_asm) (by rfl) (by with_unfolding_all rfl) (by with_unfolding_all rfl) (by decide) (by rfl) (by decide) (by rfl) (by rfl) (by rfl) ?_)))))
  (k_with "CompSrc" => ((k_here; (rename CompInv _ => hJ); k_dflt (first | (refine' comp_listM hJ (by rfl) (by k_asm) (by k_asm) (by k_mem) ?_ ?_ ?_ ?_) | (refine' comp_rangeM hJ (by rfl) (by k_asm) (by k_asm) (by assumption) (by rfl) ?_ ?_ ?_ ?_)))))
  (k_with "CompSrcT" => ((k_here; (rename CompInv _ => hJ); k_dflt (refine' comp_listTM hJ (by rfl) (by k_asm) (by k_asm) (by k_mem) ?_ ?_ ?_ ?_))))
  (k_with "call builtin:list.index" => ((k_here; (try dsimp only [List.nil_append, List.cons_append]); (with_reducible show wpAny _ _ (call (Value.builtin "list.index") [Value.ref _, Value.int _ _]) _ _ _); (refine' m_index (by is_list) (by assumption) (by omega) (by first | assumption | exact any_mem (by assumption)) ?_))))
  trivial
noncomputable def firsts (st : St) : List Int := st.rows.map fun r => r.v.getD 0 0
noncomputable def lastPlace (st : St) : Int := if st.last ∈ firsts st then ((firsts st).idxOf st.last : Nat) else -1

theorem m_last_place {w : World} {I : Ids} {st : St} {atv : Value} :
    MR w I 190 3 30 [.ref I.x] st atv (fun _ => True) (fun _ v _ => ∃ t', v = .int (lastPlace st) t') := by
  constructor
  intro p loose mean mg mb dp un gd cn cs a ccd cl outer A₀ base h₀ L m led s Q E B F X N T hk hd hu KF _ hret
  obtain ⟨kt, tm, ta, tn, twh, tl, hi, nc, ns, rfl, ok, fx⟩ := id KF
  (k_with "binds" => exact ([(Str.ofString "self", .ref I.x)]))
  k_extra "m_enter"
  rename_i g L₁ h₁ FG F₁ N₁ B₁ X₁ T₁ G
  have fxg := fx.keeps (gsub_hide G)
  have hlen := fxg.len
  have hrl := fxg.rlen
  have hJ : CompInv (fun i ys nx => nx = led4 w I st kt tm ta tn twh tl atv hi nc ns ∧ IntsAre ys ((st.rows.take i).map fun r => r.v.getD 0 0)) := ⟨⟩
  k_steps
  · unfold Hold; simp; omega
  · exact ⟨rfl, .nil⟩
  · unfold Hold
    rintro i v ys _ I' oI C oC D m₂ h tk E' hi' hv ⟨rfl, hys⟩ hns hm₂ F2 N2 off ne3
    have hi2 : i < st.rows.length := by simpa using hi'
    have hy : st.rows[i]? = some st.rows[i] := List.getElem?_eq_getElem hi2
    have ev : v = Value.ref st.rows[i].a := by simp [hy] at hv; exact hv.symm
    subst ev
    have hr3 := fxg.rv3 _ (List.mem_of_getElem? hy)
    obtain ⟨vs, nr, er, ir⟩ := fxg.rows _ (List.mem_of_getElem? hy)
    have lk := isListOf er
    have hys' := fun (_ : Unit) => hys
    clear hys
    k_steps
    with_reducible rename Fr _ _ _ _ => mF
    with_reducible rename News _ _ _ _ => mN
    refine PyProof.Rows.LCg.CompEnd.intro mF mN (led4 w I st kt tm ta tn twh tl atv hi nc ns) (fun _ h => h) off (.inr ⟨_, .tail _ (.tail _ (.tail _ (.head _))), rfl, _, rfl⟩) ⟨rfl, ?_⟩
    rw [List.take_add_one, hy]
    simp only [Option.toList_some, List.map_append, List.map_cons, List.map_nil]
    exact (hys' ()).append (.cons _ _ .nil)
  · unfold Hold
    rintro gg ys _ ⟨rfl, hys⟩ D h tk F2 N2 off
    rw [List.length_map, List.take_length] at hys
    have hz : (firsts st).length ≤ 100000 := by unfold firsts; rw [List.length_map]; omega
    have hys : IntsAre ys (firsts st) := hys
    k_steps
    · k_extra "m_end"
      with_reducible rename Fr _ _ _ _ => mF
      with_reducible rename News _ _ _ _ => mN
      with_reducible rename List.any _ _ = true => hc
      exact ⟨_, _, mF, hret _ _ _ (Fr.back FG mF) (keep_all N G mF (fun p hp => mN p (.tail _ hp))) ⟨_, by unfold lastPlace; rw [if_pos (any_mem hc)]⟩⟩
    · k_extra "m_end"
      with_reducible rename Fr _ _ _ _ => mF
      with_reducible rename News _ _ _ _ => mN
      with_reducible rename List.any _ _ = false => hc
      exact ⟨_, _, mF, hret _ _ _ (Fr.back FG mF) (keep_all N G mF (fun p hp => mN p (.tail _ hp))) ⟨_, by unfold lastPlace; rw [if_neg (any_not hc)]⟩⟩

theorem w_DB7 : True := by
  k_with_none
  (k_with "eval Name" => (k_here; k_dflt (refine' nameX_L (by k_asm) (by rfl) ?_ (by rfl) (by rfl); k_whole)))
  (k_with "cj" => (first | assumption | exact And.left (by assumption) | exact And.left (And.right (by assumption)) | exact And.right (by assumption) | exact And.left (And.right (And.right (by assumption))) | exact And.right (And.right (by assumption)) | exact And.left (And.right (And.right (And.right (by assumption)))) | exact And.right (And.right (And.right (by assumption))) | exact And.left (And.right (And.right (And.right (And.right (by assumption))))) | exact And.right (And.right (And.right (And.right (by assumption)))) | exact And.left (And.right (And.right (And.right (And.right (And.right (by assumption)))))) | exact And.right (And.right (And.right (And.right (And.right (by assumption))))) | exact And.left (And.right (And.right (And.right (And.right (And.right (And.right (by assumption))))))) | exact And.right (And.right (And.right (And.right (And.right (And.right (by assumption)))))) | exact And.left (And.right (And.right (And.right (And.right (And.right (And.right (And.right (by assumption)))))))) | exact And.right (And.right (And.right (And.right (And.right (And.right (And.right (by assumption))))))) | exact And.left (And.right (And.right (And.right (And.right (And.right (And.right (And.right (And.right (by assumption))))))))) | exact And.right (And.right (And.right (And.right (And.right (And.right (And.right (And.right (by assumption)))))))) | exact And.left (And.right (And.right (And.right (And.right (And.right (And.right (And.right (And.right (And.right (by assumption)))))))))) | exact And.right (And.right (And.right (And.right (And.right (And.right (And.right (And.right (And.right (by assumption))))))))) | exact And.left (And.right (And.right (And.right (And.right (And.right (And.right (And.right (And.right (And.right (And.right (by assumption))))))))))) | exact And.right (And.right (And.right (And.right (And.right (And.right (And.right (And.right (And.right (And.right (by assumption)))))))))) | exact And.left (And.right (And.right (And.right (And.right (And.right (And.right (And.right (And.right (And.right (And.right (And.right (by assumption)))))))))))) | exact And.right (And.right (And.right (And.right (And.right (And.right (And.right (And.right (And.right (And.right (And.right (by assumption))))))))))) | exact And.left (And.right (And.right (And.right (And.right (And.right (And.right (And.right (And.right (And.right (And.right (And.right (And.right (by assumption))))))))))))) | exact And.right (And.right (And.right (And.right (And.right (And.right (And.right (And.right (And.right (And.right (And.right (And.right (by assumption)))))))))))) | exact And.left (And.right (And.right (And.right (And.right (And.right (And.right (And.right (And.right (And.right (And.right (And.right (And.right (And.right (by assumption)))))))))))))) | exact And.right (And.right (And.right (And.right (And.right (And.right (And.right (And.right (And.right (And.right (And.right (And.right (And.right (by assumption)))))))))))))))
  (k_with "cj2" => (first | k_extra "cj" | exact Nat.lt_succ_of_lt (by k_extra "cj") | exact Nat.lt_succ_of_lt (Nat.lt_succ_of_lt (by k_extra "cj")) | exact Nat.lt_succ_self _))
  (k_with "om" => (first | (with_reducible assumption) | (with_reducible exact Nat.ne_of_gt (by k_extra "cj")) | (with_reducible exact Nat.ne_of_lt (by k_extra "cj")) | (with_reducible k_extra "cj2") | (with_reducible exact Nat.ne_of_lt (by k_extra "cj2")) | (with_reducible exact Nat.ne_of_gt (by k_extra "cj2")) | (with_reducible exact Ne.symm (by k_extra "cj")) | omega))
  (k_with "k_ne" => (refine neN ?_; (try dsimp only); k_extra "om"))
  trivial
structure LoopInvX (J : Nat → (Str → Option Value) → List (Addr × Obj) → Prop) : Prop where
section
variable {prog : Program} {w : World} {A : Around} {h₀ : Heap} {L : Addr} {env : Env} {x : Str} {body : List Stmt} {s : Shared} {E : Value → Shared → Prop} {m₀ : Str → Option Value} {news : List (Addr × Obj)}
theorem loop_rangeX {r : Addr} {a₀ b₀ : Int} {t₀ u₀ v₀ : Tok} {J : Nat → (Str → Option Value) → List (Addr × Obj) → Prop} {Q : Flow → Shared → Prop} (_hJ : LoopInvX J) (hL : env.locals = L)
    (hh : A.handled = none) (hr : IsRange s.heap r a₀ b₀ 1 t₀ u₀ v₀) (ha : -1000 ≤ a₀ ∧ a₀ ≤ 1000) (hn : a₀ ≤ b₀) (F : Fr h₀ L s.heap m₀) (N : News h₀ L s.heap news) (hz : (b₀ - a₀).toNat ≤ 100000) (hj : Hold (J 0 m₀ news))
    (turn : Hold (∀ (I : Addr) i t m₁ news₁ h tk itO, i < (b₀ - a₀).toNat → (∀ p ∈ news₁, p.1 ≠ I) → J i m₁ news₁ → Fr h₀ L h (fun y => if y = x then some (.int (a₀ + (i : Int)) t) else m₁ y) → News h₀ L h ((I, itO) :: news₁) →
      wpAny (model prog w) A (execs body env) (TurnPost h₀ L (I, itO) (J (i + 1)) { s with heap := h, toks := tk } Q) E { s with heap := h, toks := tk }))
    (done : Hold (∀ m₁ news₁ h tk, J (b₀ - a₀).toNat m₁ news₁ → Fr h₀ L h m₁ → News h₀ L h news₁ → Q .next { s with heap := h, toks := tk })) :
    wpAny (model prog w) A (pyIter (.ref r)) (fun it s₂ => LoopAtV prog w A h₀ env x body Q E it s₂) E s := by
  subst hL
  exact loop_rangeA J hh hr ha (by omega) hz F N hj turn done
theorem loop_listX {D : Addr} {k : Nat} {vs : List Value} {J : Nat → (Str → Option Value) → List (Addr × Obj) → Prop} {Q : Flow → Shared → Prop} (_hJ : LoopInvX J) (hL : env.locals = L)
    (hh : A.handled = none) (eD : h₀.get? D = some (listOf vs.toArray k)) (F : Fr h₀ L s.heap m₀) (N : News h₀ L s.heap news) (hj : Hold (J 0 m₀ news))
    (turn : Hold (∀ (I : Addr) i v m₁ news₁ h tk itO, vs[i]? = some v → (∀ p ∈ news₁, p.1 ≠ I) → J i m₁ news₁ → Fr h₀ L h (fun y => if y = x then some v else m₁ y) → News h₀ L h ((I, itO) :: news₁) →
      wpAny (model prog w) A (execs body env) (TurnPost h₀ L (I, itO) (J (i + 1)) { s with heap := h, toks := tk } Q) E { s with heap := h, toks := tk }))
    (done : Hold (∀ m₁ news₁ h tk, J vs.length m₁ news₁ → Fr h₀ L h m₁ → News h₀ L h news₁ → Q .next { s with heap := h, toks := tk })) :
    wpAny (model prog w) A (pyIter (.ref D)) (fun it s₂ => LoopAtV prog w A h₀ env x body Q E it s₂) E s := by
  subst hL
  exact loop_listB J hh eD F N hj turn done
end
structure LoopInvY (D : Addr) (lo : Obj) (J : Nat → List (Addr × Obj) → Prop) : Prop where
section
variable {prog : Program} {w : World} {A : Around} {h₀ : Heap} {L : Addr} {env : Env} {x : Str} {body : List Stmt} {s : Shared} {E : Value → Shared → Prop} {m₀ : Str → Option Value} {news : List (Addr × Obj)}
theorem loop_listY {D : Addr} {lo : Obj} {k : Nat} {vs : List Value} {J : Nat → List (Addr × Obj) → Prop} {Q : Flow → Shared → Prop} (_hJ : LoopInvY D lo J) (hL : env.locals = L)
    (hh : A.handled = none) (elo : lo = listOf vs.toArray k) (F : Fr h₀ L s.heap m₀) (N : News h₀ L s.heap news) (hJD : Hold (∀ i nx, J i nx → (D, lo) ∈ nx)) (hj : Hold (J 0 news))
    (turn : Hold (∀ (I : Addr) i v news₁ h tk itO, vs[i]? = some v → (∀ p ∈ news₁, p.1 ≠ I) → J i news₁ → Fr h₀ L h (fun y => if y = x then some v else m₀ y) → News h₀ L h ((I, itO) :: news₁) →
      wpAny (model prog w) A (execs body env) (TurnPost h₀ L (I, itO) (fun m' nx => (∀ z, z ≠ x → m' z = m₀ z) ∧ J (i + 1) nx) { s with heap := h, toks := tk } Q) E { s with heap := h, toks := tk }))
    (done : Hold (∀ (u : Str → Option Value) news₁ h tk, J vs.length news₁ → Fr h₀ L h (fun z => if z = x then u z else m₀ z) → News h₀ L h news₁ → Q .next { s with heap := h, toks := tk })) :
    wpAny (model prog w) A (pyIter (.ref D)) (fun it s₂ => LoopAtV prog w A h₀ env x body Q E it s₂) E s := by
  subst hL
  exact loop_list0 J hh elo hJD F N hj turn done
end
theorem ints_at {vs : List Value} {xs : List Int} (h : IntsAre vs xs) : ∀ {i : Nat} {v : Value}, vs[i]? = some v → ∃ z t, xs[i]? = some z ∧ v = .int z t := by
  induction h with
  | nil => intro i v e; simp at e
  | cons _ _ _ ih =>
    intro i v e
    cases i with
    | zero => simp only [List.getElem?_cons_zero, Option.some.injEq] at e ⊢; exact ⟨_, _, rfl, e.symm⟩
    | succ i => simp only [List.getElem?_cons_succ] at e ⊢; exact ih e

theorem w_DB8 : True := by
  k_with_none
  (k_with "eval Name" => (k_here; k_dflt (refine' nameX_L (by k_asm) (by rfl) ?_ (by rfl) (by rfl); k_whole)))
  (k_with "cj" => (first | assumption | exact And.left (by assumption) | exact And.left (And.right (by assumption)) | exact And.right (by assumption) | exact And.left (And.right (And.right (by assumption))) | exact And.right (And.right (by assumption)) | exact And.left (And.right (And.right (And.right (by assumption)))) | exact And.right (And.right (And.right (by assumption))) | exact And.left (And.right (And.right (And.right (And.right (by assumption))))) | exact And.right (And.right (And.right (And.right (by assumption)))) | exact And.left (And.right (And.right (And.right (And.right (And.right (by assumption)))))) | exact And.right (And.right (And.right (And.right (And.right (by assumption))))) | exact And.left (And.right (And.right (And.right (And.right (And.right (And.right (by assumption))))))) | exact And.right (And.right (And.right (And.right (And.right (And.right (by assumption)))))) | exact And.left (And.right (And.right (And.right (And.right (And.right (And.right (And.right (by assumption)))))))) | exact And.right (And.right (And.right (And.right (And.right (And.right (And.right (by assumption))))))) | exact And.left (And.right (And.right (And.right (And.right (And.right (And.right (And.right (And.right (by assumption))))))))) | exact And.right (And.right (And.right (And.right (And.right (And.right (And.right (And.right (by assumption)))))))) | exact And.left (And.right (And.right (And.right (And.right (And.right (And.right (And.right (And.right (And.right (by assumption)))))))))) | exact And.right (And.right (And.right (And.right (And.right (And.right (And.right (And.right (And.right (by assumption))))))))) | exact And.left (And.right (And.right (And.right (And.right (And.right (And.right (And.right (And.right (And.right (And.right (by assumption))))))))))) | exact And.right (And.right (And.right (And.right (And.right (And.right (And.right (And.right (And.right (And.right (by assumption)))))))))) | exact And.left (And.right (And.right (And.right (And.right (And.right (And.right (And.right (And.right (And.right (And.right (And.right (by assumption)))))))))))) | exact And.right (And.right (And.right (And.right (And.right (And.right (And.right (And.right (And.right (And.right (And.right (by assumption))))))))))) | exact And.left (And.right (And.right (And.right (And.right (And.right (And.right (And.right (And.right (And.right (And.right (And.right (And.right (by assumption))))))))))))) | exact And.right (And.right (And.right (And.right (And.right (And.right (And.right (And.right (And.right (And.right (And.right (And.right (by assumption)))))))))))) | exact And.left (And.right (And.right (And.right (And.right (And.right (And.right (And.right (And.right (And.right (And.right (And.right (And.right (And.right (by assumption)))))))))))))) | exact And.right (And.right (And.right (And.right (And.right (And.right (And.right (And.right (And.right (And.right (And.right (And.right (And.right (by assumption)))))))))))))))
  (k_with "cj2" => (first | k_extra "cj" | exact Nat.lt_succ_of_lt (by k_extra "cj") | exact Nat.lt_succ_of_lt (Nat.lt_succ_of_lt (by k_extra "cj")) | exact Nat.lt_succ_self _))
  (k_with "om" => (first | (with_reducible assumption) | (with_reducible exact Nat.ne_of_gt (by k_extra "cj")) | (with_reducible exact Nat.ne_of_lt (by k_extra "cj")) | (with_reducible k_extra "cj2") | (with_reducible exact Nat.ne_of_lt (by k_extra "cj2")) | (with_reducible exact Nat.ne_of_gt (by k_extra "cj2")) | (with_reducible exact Ne.symm (by k_extra "cj")) | omega))
  (k_with "k_ne" => (refine neN ?_; (try dsimp only); k_extra "om"))
  trivial
theorem off4 {I : Ids} {a : Addr} (h1 : @LT.lt Nat _ I.x a) (h2 : @LT.lt Nat _ I.dx a) (h3 : @LT.lt Nat _ I.cA a) (h4 : @LT.lt Nat _ I.sA a) : a ∉ I.adr := fun h => by
  rcases List.mem_cons.mp h with e | h
  · exact Nat.ne_of_gt h1 e
  rcases List.mem_cons.mp h with e | h
  · exact Nat.ne_of_gt h2 e
  rcases List.mem_cons.mp h with e | h
  · exact Nat.ne_of_gt h3 e
  rcases List.mem_cons.mp h with e | h
  · exact Nat.ne_of_gt h4 e
  cases h
noncomputable def OffAll (I : Ids) : List (Addr × Obj) → Prop
  | [] => True
  | p :: l => p.1 ∉ I.adr ∧ OffAll I l
theorem OffAll.at {I : Ids} (l : List (Addr × Obj)) (h : OffAll I l) (p : Addr × Obj) (hp : p ∈ l) : p.1 ∉ I.adr := by
  induction l with
  | nil => cases hp
  | cons q l ih =>
    rcases List.mem_cons.mp hp with e | hp
    · rw [e]; exact h.1
    · exact ih h.2 hp
/-- how many entries at the head of the ledger are kept over a call -/
structure RestK (k : Nat) : Prop where
/-- a mark: the walk halts at the next iteration -/
structure StopIter : Prop where
theorem hold_iter {P : Prop} (_ : StopIter) (h : Hold P) : P := h
section
variable {w : World} {I : Ids} {f : Addr} {d u : Nat} {args : List Value} {st : St} {atv : Value} {Pre : Heap → Prop} {Post2 : Heap → Value → St → Value → Heap → Prop}
  {p : Program} {loose : List Str} {mean : ExcName → Option Value} {mg mb : Str → Option Value} {dp un : Nat} {gd : Option (List Code)} {cn : Str} {cs : Scope} {a : Addr} {ccd : Value} {cl : List (Str × Addr)} {outer : List Env} {A₀ : Around} {base h₀ : Heap} {L : Addr} {m : Str → Option Value} {news : List (Addr × Obj)} {s : Shared} {Q E : Value → Shared → Prop}
  {tk : Nat → Tok} {tm ta tn tw tl : Tok} {hi : Value} {nc ns : Nat}
theorem MC.useK {k : Nat} (_ : RestK k) (C : MC w I f d u args st atv Pre Post2) (B : Below A₀ base outer h₀) (F : Fr h₀ L s.heap m) (X : (hd02.heap_39 w.params).In h₀) (N : News h₀ L s.heap news) (T : Top p loose mean mg mb h₀) (hk : cs.kind = .function) (ok : I.Ok) (fx : Fx h₀ I st)
    (h1 : (I.x, instObj 208 I.dx) ∈ news) (h2 : (I.dx, dictOf (kd w I tk (.str I.mode tm) (.str I.acc ta) (.int st.next tn) (.int st.which tw) atv (.bool st.nowhere) (.int st.last tl) hi) 11) ∈ news)
    (h3 : (I.cA, listOf (st.cs.map fun r => Value.bytes r.1 r.2).toArray nc) ∈ news) (h4 : (I.sA, listOf (st.rows.map fun r => Value.ref r.a).toArray ns) ∈ news)
    (hd : dp + d < recursionLimit) (hu : un + u < cLine) (pre : Pre s.heap) (hr : OffAll I (news.take k))
    (ret : ∀ v st' atv' h' tk' led', Fr h₀ L h' m → News h₀ L h' (led' ++ news.take k) → GSub s.heap h' I.adr → KFo w I st' atv' led' h' → Post2 s.heap v st' atv' h' → Q v { s with heap := h', toks := tk' }) :
    wpAny (model prog w) (ktrTop dp un gd cn cs L a ccd cl outer) (call (.ref f) args) Q E s :=
  MC.use (news.take k) C B F X N T hk ok fx h1 h2 h3 h4 hd hu pre (fun p hp => ⟨List.mem_of_mem_take hp, hr.at _ p hp⟩) ret
end

theorem w_DB9 : True := by
  k_with_none
  (k_with "eval Name" => (k_here; k_dflt (refine' nameX_L (by k_asm) (by rfl) ?_ (by rfl) (by rfl); k_whole)))
  (k_with "cj" => (first | assumption | exact And.left (by assumption) | exact And.left (And.right (by assumption)) | exact And.right (by assumption) | exact And.left (And.right (And.right (by assumption))) | exact And.right (And.right (by assumption)) | exact And.left (And.right (And.right (And.right (by assumption)))) | exact And.right (And.right (And.right (by assumption))) | exact And.left (And.right (And.right (And.right (And.right (by assumption))))) | exact And.right (And.right (And.right (And.right (by assumption)))) | exact And.left (And.right (And.right (And.right (And.right (And.right (by assumption)))))) | exact And.right (And.right (And.right (And.right (And.right (by assumption))))) | exact And.left (And.right (And.right (And.right (And.right (And.right (And.right (by assumption))))))) | exact And.right (And.right (And.right (And.right (And.right (And.right (by assumption)))))) | exact And.left (And.right (And.right (And.right (And.right (And.right (And.right (And.right (by assumption)))))))) | exact And.right (And.right (And.right (And.right (And.right (And.right (And.right (by assumption))))))) | exact And.left (And.right (And.right (And.right (And.right (And.right (And.right (And.right (And.right (by assumption))))))))) | exact And.right (And.right (And.right (And.right (And.right (And.right (And.right (And.right (by assumption)))))))) | exact And.left (And.right (And.right (And.right (And.right (And.right (And.right (And.right (And.right (And.right (by assumption)))))))))) | exact And.right (And.right (And.right (And.right (And.right (And.right (And.right (And.right (And.right (by assumption))))))))) | exact And.left (And.right (And.right (And.right (And.right (And.right (And.right (And.right (And.right (And.right (And.right (by assumption))))))))))) | exact And.right (And.right (And.right (And.right (And.right (And.right (And.right (And.right (And.right (And.right (by assumption)))))))))) | exact And.left (And.right (And.right (And.right (And.right (And.right (And.right (And.right (And.right (And.right (And.right (And.right (by assumption)))))))))))) | exact And.right (And.right (And.right (And.right (And.right (And.right (And.right (And.right (And.right (And.right (And.right (by assumption))))))))))) | exact And.left (And.right (And.right (And.right (And.right (And.right (And.right (And.right (And.right (And.right (And.right (And.right (And.right (by assumption))))))))))))) | exact And.right (And.right (And.right (And.right (And.right (And.right (And.right (And.right (And.right (And.right (And.right (And.right (by assumption)))))))))))) | exact And.left (And.right (And.right (And.right (And.right (And.right (And.right (And.right (And.right (And.right (And.right (And.right (And.right (And.right (by assumption)))))))))))))) | exact And.right (And.right (And.right (And.right (And.right (And.right (And.right (And.right (And.right (And.right (And.right (And.right (And.right (by assumption)))))))))))))))
  (k_with "cj2" => (first | k_extra "cj" | exact Nat.lt_succ_of_lt (by k_extra "cj") | exact Nat.lt_succ_of_lt (Nat.lt_succ_of_lt (by k_extra "cj")) | exact Nat.lt_succ_self _))
  (k_with "om" => (first | (with_reducible assumption) | (with_reducible exact Nat.ne_of_gt (by k_extra "cj")) | (with_reducible exact Nat.ne_of_lt (by k_extra "cj")) | (with_reducible k_extra "cj2") | (with_reducible exact Nat.ne_of_lt (by k_extra "cj2")) | (with_reducible exact Nat.ne_of_gt (by k_extra "cj2")) | (with_reducible exact Ne.symm (by k_extra "cj")) | omega))
  (k_with "k_ne" => (refine neN ?_; (try dsimp only); k_extra "om"))
  trivial
/-- a new object of the heap joins the ledger -/
theorem led_grow {g h h' : Heap} {L : Addr} {m : Str → Option Value} {news : List (Addr × Obj)} {D : Addr} {o : Obj} (F : Fr g L h m) (N' : News g L h' news) (eD : h'.get? D = some o) (hD : h.get? D = none) : News g L h' ((D, o) :: news) := fun p hp => by
  rcases List.mem_cons.mp hp with rfl | hp
  · refine ⟨eD, fun e => ?_, ?_⟩
    · obtain ⟨_, _, _, ho, _⟩ := F.ns
      have e1 : D = L := e
      rw [← e1, hD] at ho; cases ho
    · cases e : g.get? D with
      | none => rfl
      | some o' => rw [F.keep _ _ e] at hD; cases hD
  · exact N' p hp
theorem Fx.of2 {h h2 : Heap} {I : Ids} {st st2 : St} (y : Fx h2 I st2) (x : Fx h I st) (h1 : st2.cs = st.cs) (h2 : st2.rows = st.rows) : Fx h I st2 := Fx.same x h1 h2 y.wh
theorem led_grows {g h h' : Heap} {L : Addr} {m : Str → Option Value} {news : List (Addr × Obj)} (F : Fr g L h m) (N' : News g L h' news) : ∀ {us : List TRow}, (∀ t ∈ us, h'.get? t.a = some t.obj ∧ h.get? t.a = none) → News g L h' (us.map TRow.ent ++ news)
  | [], _ => N'
  | t :: us, h => led_grow F (led_grows F N' fun t' ht => h t' (.tail _ ht)) (h t (.head _)).1 (h t (.head _)).2
theorem led_growZ {g h h' : Heap} {L : Addr} {m : Str → Option Value} {news : List (Addr × Obj)} {D : Addr} {o : Obj} (F : Fr g L h m) (N' : News g L h' news) (eD : h'.get? D = some o) (hD : h.get? D = none) {us : List TRow} (hu : ∀ t ∈ us, h'.get? t.a = some t.obj ∧ h.get? t.a = none) : News g L h' ((D, o) :: (news ++ us.map TRow.ent)) := fun p hp =>
  led_grow F (led_grows F N' hu) eD hD p (by
    rcases List.mem_cons.mp hp with rfl | hp
    · exact .head _
    · exact .tail _ (List.mem_append.mpr (List.mem_append.mp hp).symm))
/-- a mark: the state that the next call finds -/
structure FxNext (h : Heap) (I : Ids) (st : St) : Prop where
  fx : Fx h I st
abbrev ledOf {g h : Heap} {L : Addr} {news : List (Addr × Obj)} (_ : News g L h news) : List (Addr × Obj) := news
theorem News.dup3 {g h : Heap} {L : Addr} {a1 a2 a3 p : Addr × Obj} {nx : List (Addr × Obj)} (N : News g L h (a1 :: a2 :: a3 :: nx)) (hm : p ∈ nx) : News g L h (a1 :: a2 :: a3 :: p :: nx) := fun q hq => by
  rcases List.mem_cons.mp hq with rfl | hq
  · exact N _ (.head _)
  rcases List.mem_cons.mp hq with rfl | hq
  · exact N _ (.tail _ (.head _))
  rcases List.mem_cons.mp hq with rfl | hq
  · exact N _ (.tail _ (.tail _ (.head _)))
  rcases List.mem_cons.mp hq with rfl | hq
  · exact N _ (.tail _ (.tail _ (.tail _ hm)))
  · exact N _ (.tail _ (.tail _ (.tail _ hq)))
theorem sub_dup3 {a1 a2 a3 p : Addr × Obj} {nx : List (Addr × Obj)} : ∀ q ∈ a1 :: a2 :: a3 :: nx, q ∈ a1 :: a2 :: a3 :: p :: nx := fun q hq => by
  rcases List.mem_cons.mp hq with rfl | hq
  · exact .head _
  rcases List.mem_cons.mp hq with rfl | hq
  · exact .tail _ (.head _)
  rcases List.mem_cons.mp hq with rfl | hq
  · exact .tail _ (.tail _ (.head _))
  · exact .tail _ (.tail _ (.tail _ (.tail _ hq)))
theorem row_at {us : List TRow} {k : Nat} {v : Value} (h : (us.map fun t => Value.ref t.a)[k]? = some v) : ∃ t, us[k]? = some t ∧ v = .ref t.a := by
  rw [List.getElem?_map] at h
  cases e : us[k]? with
  | none => rw [e] at h; cases h
  | some t => rw [e] at h; exact ⟨t, rfl, (Option.some.inj h).symm⟩
theorem row_mem {us : List TRow} {k : Nat} {t : TRow} (h : us[k]? = some t) : (t.a, t.obj) ∈ us.map TRow.ent := List.mem_map_of_mem (f := TRow.ent) (List.mem_of_getElem? h)
theorem step_in {us : List TRow} {k : Nat} {t : TRow} {P : TRow → Bool} {ys : List Value} {y : Value} (ht : us[k]? = some t) (hP : P t = true) : ys ++ [y] ≠ [] ↔ ∃ t ∈ us.take (k + 1), P t = true := by
  constructor
  · intro _
    refine ⟨t, ?_, hP⟩
    rw [List.take_add_one, ht]
    exact List.mem_append_right _ (.head _)
  · intro _ h
    have := congrArg List.length h
    simp at this
theorem step_out {us : List TRow} {k : Nat} {t : TRow} {P : TRow → Bool} {ys : List Value} (h : ys ≠ [] ↔ ∃ t ∈ us.take k, P t = true) (ht : us[k]? = some t) (hP : P t = false) : ys ≠ [] ↔ ∃ t ∈ us.take (k + 1), P t = true := by
  rw [h]
  constructor
  · rintro ⟨t, h1, h2⟩
    refine ⟨t, ?_, h2⟩
    rw [List.take_add_one]
    exact List.mem_append_left _ h1
  · rintro ⟨t', h1, h2⟩
    rw [List.take_add_one, ht] at h1
    rcases List.mem_append.mp h1 with h1 | h1
    · exact ⟨t', h1, h2⟩
    · have e : t' = t := List.mem_singleton.mp h1
      rw [e, hP] at h2; cases h2

theorem w_DB10 : True := by
  k_with_none
  (k_with "eval Name" => (k_here; k_dflt (refine' nameX_L (by k_asm) (by rfl) ?_ (by rfl) (by rfl); k_whole)))
  (k_with "cj" => (first | assumption | exact And.left (by assumption) | exact And.left (And.right (by assumption)) | exact And.right (by assumption) | exact And.left (And.right (And.right (by assumption))) | exact And.right (And.right (by assumption)) | exact And.left (And.right (And.right (And.right (by assumption)))) | exact And.right (And.right (And.right (by assumption))) | exact And.left (And.right (And.right (And.right (And.right (by assumption))))) | exact And.right (And.right (And.right (And.right (by assumption)))) | exact And.left (And.right (And.right (And.right (And.right (And.right (by assumption)))))) | exact And.right (And.right (And.right (And.right (And.right (by assumption))))) | exact And.left (And.right (And.right (And.right (And.right (And.right (And.right (by assumption))))))) | exact And.right (And.right (And.right (And.right (And.right (And.right (by assumption)))))) | exact And.left (And.right (And.right (And.right (And.right (And.right (And.right (And.right (by assumption)))))))) | exact And.right (And.right (And.right (And.right (And.right (And.right (And.right (by assumption))))))) | exact And.left (And.right (And.right (And.right (And.right (And.right (And.right (And.right (And.right (by assumption))))))))) | exact And.right (And.right (And.right (And.right (And.right (And.right (And.right (And.right (by assumption)))))))) | exact And.left (And.right (And.right (And.right (And.right (And.right (And.right (And.right (And.right (And.right (by assumption)))))))))) | exact And.right (And.right (And.right (And.right (And.right (And.right (And.right (And.right (And.right (by assumption))))))))) | exact And.left (And.right (And.right (And.right (And.right (And.right (And.right (And.right (And.right (And.right (And.right (by assumption))))))))))) | exact And.right (And.right (And.right (And.right (And.right (And.right (And.right (And.right (And.right (And.right (by assumption)))))))))) | exact And.left (And.right (And.right (And.right (And.right (And.right (And.right (And.right (And.right (And.right (And.right (And.right (by assumption)))))))))))) | exact And.right (And.right (And.right (And.right (And.right (And.right (And.right (And.right (And.right (And.right (And.right (by assumption))))))))))) | exact And.left (And.right (And.right (And.right (And.right (And.right (And.right (And.right (And.right (And.right (And.right (And.right (And.right (by assumption))))))))))))) | exact And.right (And.right (And.right (And.right (And.right (And.right (And.right (And.right (And.right (And.right (And.right (And.right (by assumption)))))))))))) | exact And.left (And.right (And.right (And.right (And.right (And.right (And.right (And.right (And.right (And.right (And.right (And.right (And.right (And.right (by assumption)))))))))))))) | exact And.right (And.right (And.right (And.right (And.right (And.right (And.right (And.right (And.right (And.right (And.right (And.right (And.right (by assumption)))))))))))))))
  (k_with "cj2" => (first | k_extra "cj" | exact Nat.lt_succ_of_lt (by k_extra "cj") | exact Nat.lt_succ_of_lt (Nat.lt_succ_of_lt (by k_extra "cj")) | exact Nat.lt_succ_self _))
  (k_with "om" => (first | (with_reducible assumption) | (with_reducible exact Nat.ne_of_gt (by k_extra "cj")) | (with_reducible exact Nat.ne_of_lt (by k_extra "cj")) | (with_reducible k_extra "cj2") | (with_reducible exact Nat.ne_of_lt (by k_extra "cj2")) | (with_reducible exact Nat.ne_of_gt (by k_extra "cj2")) | (with_reducible exact Ne.symm (by k_extra "cj")) | omega))
  (k_with "k_ne" => (refine neN ?_; (try dsimp only); k_extra "om"))
  trivial
/-- what stood before a call, kept from the sweep -/
structure Was (g : Heap) (L : Addr) (h : Heap) (m : Str → Option Value) (news : List (Addr × Obj)) : Prop where
  F : Fr g L h m
  N : News g L h news
section
variable {prog : Program} {w : World} {A : Around} {E : Value → Shared → Prop} {s : Shared} {Q : Value → Shared → Prop}
theorem m_ne_nil {D D2 : Addr} {ys : List Value} (hl : s.heap.IsList D ys.toArray) (hb : s.heap.IsList D2 #[]) (hu : A.units < cLine) (h : Q (.bool (decide (ys ≠ []))) s) :
    wpAny (model prog w) A (compareOp .NotEq (.ref D) (.ref D2)) Q E s := by
  show wpAny (model prog w) A (richCompare .NotEq (.ref D) (.ref D2)) Q E s
  cases ys with
  | nil => exact PySem.SeqAt.RcNeAt.lists hl hb rfl hu (e := fun _ => true) (fun j h1 _ => absurd h1 (Nat.not_lt_zero j)) prog w E Q h
  | cons y ys => exact PySem.SeqAt.RcNeAt.lists_lengths hl hb (by simp) hu prog w E Q h
theorem m_ne_nil2 {g : Heap} {L : Addr} {news : List (Addr × Obj)} {D D2 : Addr} {ys : List Value} {n n2 : Nat} (N : News g L s.heap news) (h1 : (D, listOf ys.toArray n) ∈ news) (h2 : (D2, listOf #[] n2) ∈ news) (hu : A.units < cLine) (h : Q (.bool (decide (ys ≠ []))) s) :
    wpAny (model prog w) A (compareOp .NotEq (.ref D) (.ref D2)) Q E s := m_ne_nil (isListOf (N _ h1).1) (isListOf (N _ h2).1) hu h
end

section
open PySem PySem.W PyProof.Rows PySem.Calls PySem.Spec Builtin PySem.SeqAt
theorem w_DT1 : True := by
  k_with_none
  (k_with "eval Name" => (k_here; k_dflt (refine' nameX_L (by k_asm) (by rfl) ?_ (by rfl) (by rfl); k_whole)))
  (k_with "cj" => (first | assumption | exact And.left (by assumption) | exact And.left (And.right (by assumption)) | exact And.right (by assumption) | exact And.left (And.right (And.right (by assumption))) | exact And.right (And.right (by assumption)) | exact And.left (And.right (And.right (And.right (by assumption)))) | exact And.right (And.right (And.right (by assumption))) | exact And.left (And.right (And.right (And.right (And.right (by assumption))))) | exact And.right (And.right (And.right (And.right (by assumption)))) | exact And.left (And.right (And.right (And.right (And.right (And.right (by assumption)))))) | exact And.right (And.right (And.right (And.right (And.right (by assumption))))) | exact And.left (And.right (And.right (And.right (And.right (And.right (And.right (by assumption))))))) | exact And.right (And.right (And.right (And.right (And.right (And.right (by assumption)))))) | exact And.left (And.right (And.right (And.right (And.right (And.right (And.right (And.right (by assumption)))))))) | exact And.right (And.right (And.right (And.right (And.right (And.right (And.right (by assumption))))))) | exact And.left (And.right (And.right (And.right (And.right (And.right (And.right (And.right (And.right (by assumption))))))))) | exact And.right (And.right (And.right (And.right (And.right (And.right (And.right (And.right (by assumption)))))))) | exact And.left (And.right (And.right (And.right (And.right (And.right (And.right (And.right (And.right (And.right (by assumption)))))))))) | exact And.right (And.right (And.right (And.right (And.right (And.right (And.right (And.right (And.right (by assumption))))))))) | exact And.left (And.right (And.right (And.right (And.right (And.right (And.right (And.right (And.right (And.right (And.right (by assumption))))))))))) | exact And.right (And.right (And.right (And.right (And.right (And.right (And.right (And.right (And.right (And.right (by assumption)))))))))) | exact And.left (And.right (And.right (And.right (And.right (And.right (And.right (And.right (And.right (And.right (And.right (And.right (by assumption)))))))))))) | exact And.right (And.right (And.right (And.right (And.right (And.right (And.right (And.right (And.right (And.right (And.right (by assumption))))))))))) | exact And.left (And.right (And.right (And.right (And.right (And.right (And.right (And.right (And.right (And.right (And.right (And.right (And.right (by assumption))))))))))))) | exact And.right (And.right (And.right (And.right (And.right (And.right (And.right (And.right (And.right (And.right (And.right (And.right (by assumption)))))))))))) | exact And.left (And.right (And.right (And.right (And.right (And.right (And.right (And.right (And.right (And.right (And.right (And.right (And.right (And.right (by assumption)))))))))))))) | exact And.right (And.right (And.right (And.right (And.right (And.right (And.right (And.right (And.right (And.right (And.right (And.right (And.right (by assumption)))))))))))))))
  (k_with "cj2" => (first | k_extra "cj" | exact Nat.lt_succ_of_lt (by k_extra "cj") | exact Nat.lt_succ_of_lt (Nat.lt_succ_of_lt (by k_extra "cj")) | exact Nat.lt_succ_self _))
  (k_with "om" => (first | (with_reducible assumption) | (with_reducible exact Nat.ne_of_gt (by k_extra "cj")) | (with_reducible exact Nat.ne_of_lt (by k_extra "cj")) | (with_reducible k_extra "cj2") | (with_reducible exact Nat.ne_of_lt (by k_extra "cj2")) | (with_reducible exact Nat.ne_of_gt (by k_extra "cj2")) | (with_reducible exact Ne.symm (by k_extra "cj")) | omega))
  (k_with "k_ne" => (refine neN ?_; (try dsimp only); k_extra "om"))
  trivial
noncomputable def gtP (b1 : Bytes) (s1 : Int) (b2 : Bytes) (s2 : Int) : Bool := if b1.toList == b2.toList then decide (s2 < s1) else ltL b2.toList b1.toList
theorem rich_gt_int {prog : Program} {w : World} {A : Around} {E : Value → Shared → Prop} {s : Shared} {x y : Int} {t u : Tok} {Q : Value → Shared → Prop} (h : Q (.bool (decide (y < x))) s) : wpAny (model prog w) A (richCompare .Gt (.int x t) (.int y u)) Q E s :=
  PyProof.Rows.gt_int h
theorem tuple_gtAt (l b : Addr) (b1 b2 : Bytes) (s1 s2 : Int) (t1 t2 u1 u2 : Tok) (n n2 : Nat) (dd dd2 : Option Addr) (sl sl2 : Array (Option Value)) :
    Meets (Builtin.«tuple.__gt__» ⟨[.ref l, .ref b], []⟩)
      (fun A R s => s.heap.get? l = some { cls := .type "tuple", dict := dd, data := .seq #[.bytes b1 t1, .int s1 u1] n, slots := sl } ∧ s.heap.get? b = some { cls := .type "tuple", dict := dd2, data := .seq #[.bytes b2 t2, .int s2 u2] n2, slots := sl2 } ∧
        R (.ok (.ret (.bool (gtP b1 s1 b2 s2)))) s) :=
  .of_wp fun prog w A R s h => by
    obtain ⟨hp, g, d, tk, os⟩ := s; obtain ⟨hl, hb, h⟩ := h
    have f2 := AutoSeq1.sub_tuple_tuple
    wp_walk using wpAny_loadPart' hl, wpAny_loadPart' hb, wpAny_forIn_list _ (fun rest c s' => c.1 = none ∧ s' = ⟨hp, g, d, tk, os⟩ ∧ (rest = [(Value.bytes b1 t1, Value.bytes b2 t2), (Value.int s1 u1, Value.int s2 u2)] ∨ (rest = [(Value.int s1 u1, Value.int s2 u2)] ∧ (b1.toList == b2.toList) = true) ∨ (rest = [] ∧ (b1.toList == b2.toList) = true ∧ (s1 == s2) = true))) _
    case turn =>
      rintro ⟨x, y⟩ rest c s' ⟨hc, rfl, h'⟩
      rcases h' with h' | ⟨h', e⟩ | ⟨h', _⟩
      · cases h'
        refine wpAny_bind (eqBool_bytes ?_)
        cases e : (b1.toList == b2.toList) with
        | true =>
          wp_walk
          exact ⟨rfl, rfl, .inr (.inl ⟨rfl, rfl⟩)⟩
        | false =>
          wp_walk using rich_gt_bytes
          exact ⟨_, rfl, by simpa [gtP, e] using h⟩
      · cases h'
        refine wpAny_bind (wpAny_eqBool_int ?_)
        cases f : (s1 == s2) with
        | true =>
          wp_walk
          exact ⟨rfl, rfl, .inr (.inr ⟨rfl, e, rfl⟩)⟩
        | false =>
          wp_walk using rich_gt_int
          exact ⟨_, rfl, by simpa [gtP, e] using h⟩
      · cases h'
    case fin =>
      rintro ⟨c1, c2⟩ s' ⟨hc, rfl, h'⟩
      rcases h' with h' | ⟨h', e⟩ | ⟨h', e, f⟩
      · cases h'
      · cases h'
      · simp only at hc
        subst hc
        wp_walk
        exact ⟨_, rfl, by have q : ¬ s2 < s1 := by { rw [beq_iff_eq.mp f]; omega }; simpa [gtP, e, q, Tuple.tupleCompareSizes] using h⟩
    all_goals first | exact ⟨rfl, rfl, .inl rfl⟩ | trace_state
theorem m_tup_gt {g : Heap} {L : Addr} {m : Str → Option Value} {news : List (Addr × Obj)} {prog : Program} {w : World} {A : Around} {E : Value → Shared → Prop} {s : Shared} {a b : Addr} {b1 b2 : Bytes} {s1 s2 : Int} {t1 t2 u1 u2 : Tok} {Q : Value → Shared → Prop} (Fm : Fr g L s.heap m) (N : News g L s.heap news)
    (ha : (a, tupOf [.bytes b1 t1, .int s1 u1]) ∈ news) (hb : g.get? b = some (tupOf [.bytes b2 t2, .int s2 u2])) (hu : A.units < cLine) (h : Q (.bool (gtP b1 s1 b2 s2)) s) :
    wpAny (model prog w) A (compareOp .Gt (.ref a) (.ref b)) Q E s :=
  have ea := (N _ ha).1
  have eb := Fm.keep _ _ hb
  richCompare_meets_room (op := .Gt) ⟨_, ea, rfl⟩ ⟨_, eb, rfl⟩ F.slot_tuple_gt F.entry_tuple_gt (F.args_tuple_gt_2 _ _) (tuple_gtAt a b b1 b2 s1 s2 t1 t2 u1 u2 _ _ _ _ _ _)
    ⟨ea, eb, show Value.bool (gtP b1 s1 b2 s2) ≠ Value.notImplemented ∧ Q (.bool (gtP b1 s1 b2 s2)) s from ⟨(fun x => nomatch x), h⟩⟩ hu

end

theorem w_DC8a : True := by
  k_with_none
  (k_with "eval Name" => (k_here; k_dflt (refine' nameX_L (by k_asm) (by rfl) ?_ (by rfl) (by rfl); k_whole)))
  (k_with "cj" => (first | assumption | exact And.left (by assumption) | exact And.left (And.right (by assumption)) | exact And.right (by assumption) | exact And.left (And.right (And.right (by assumption))) | exact And.right (And.right (by assumption)) | exact And.left (And.right (And.right (And.right (by assumption)))) | exact And.right (And.right (And.right (by assumption))) | exact And.left (And.right (And.right (And.right (And.right (by assumption))))) | exact And.right (And.right (And.right (And.right (by assumption)))) | exact And.left (And.right (And.right (And.right (And.right (And.right (by assumption)))))) | exact And.right (And.right (And.right (And.right (And.right (by assumption))))) | exact And.left (And.right (And.right (And.right (And.right (And.right (And.right (by assumption))))))) | exact And.right (And.right (And.right (And.right (And.right (And.right (by assumption)))))) | exact And.left (And.right (And.right (And.right (And.right (And.right (And.right (And.right (by assumption)))))))) | exact And.right (And.right (And.right (And.right (And.right (And.right (And.right (by assumption))))))) | exact And.left (And.right (And.right (And.right (And.right (And.right (And.right (And.right (And.right (by assumption))))))))) | exact And.right (And.right (And.right (And.right (And.right (And.right (And.right (And.right (by assumption)))))))) | exact And.left (And.right (And.right (And.right (And.right (And.right (And.right (And.right (And.right (And.right (by assumption)))))))))) | exact And.right (And.right (And.right (And.right (And.right (And.right (And.right (And.right (And.right (by assumption))))))))) | exact And.left (And.right (And.right (And.right (And.right (And.right (And.right (And.right (And.right (And.right (And.right (by assumption))))))))))) | exact And.right (And.right (And.right (And.right (And.right (And.right (And.right (And.right (And.right (And.right (by assumption)))))))))) | exact And.left (And.right (And.right (And.right (And.right (And.right (And.right (And.right (And.right (And.right (And.right (And.right (by assumption)))))))))))) | exact And.right (And.right (And.right (And.right (And.right (And.right (And.right (And.right (And.right (And.right (And.right (by assumption))))))))))) | exact And.left (And.right (And.right (And.right (And.right (And.right (And.right (And.right (And.right (And.right (And.right (And.right (And.right (by assumption))))))))))))) | exact And.right (And.right (And.right (And.right (And.right (And.right (And.right (And.right (And.right (And.right (And.right (And.right (by assumption)))))))))))) | exact And.left (And.right (And.right (And.right (And.right (And.right (And.right (And.right (And.right (And.right (And.right (And.right (And.right (And.right (by assumption)))))))))))))) | exact And.right (And.right (And.right (And.right (And.right (And.right (And.right (And.right (And.right (And.right (And.right (And.right (And.right (by assumption)))))))))))))))
  (k_with "cj2" => (first | k_extra "cj" | exact Nat.lt_succ_of_lt (by k_extra "cj") | exact Nat.lt_succ_of_lt (Nat.lt_succ_of_lt (by k_extra "cj")) | exact Nat.lt_succ_self _))
  (k_with "om" => (first | (with_reducible assumption) | (with_reducible exact Nat.ne_of_gt (by k_extra "cj")) | (with_reducible exact Nat.ne_of_lt (by k_extra "cj")) | (with_reducible k_extra "cj2") | (with_reducible exact Nat.ne_of_lt (by k_extra "cj2")) | (with_reducible exact Nat.ne_of_gt (by k_extra "cj2")) | (with_reducible exact Ne.symm (by k_extra "cj")) | omega))
  (k_with "k_ne" => (refine neN ?_; (try dsimp only); k_extra "om"))
  trivial
/-- where the file stands: a tuple that is new -/
noncomputable def AtN (h0 h : Heap) (v : Value) (b : Bytes) (i : Int) : Prop := ∃ tA t1 t2, v = .ref tA ∧ h.get? tA = some (tupOf [.bytes b t1, .int i t2]) ∧ h0.get? tA = none
theorem AtN.is {h0 h : Heap} {v : Value} {b : Bytes} {i : Int} (x : AtN h0 h v b i) : AtIs h v b i := by
  obtain ⟨tA, t1, t2, e, e1, _⟩ := x
  exact ⟨tA, t1, t2, e, e1⟩
noncomputable def moreOf (st : St) (wh : Int) (b : Bytes) (s : Int) : Bool := (List.range st.cs.length).any fun i => (keyAt st wh i).1.toList == b.toList && decide (s < (keyAt st wh i).2.1)
noncomputable def statOf (st : St) (wh : Int) (b : Bytes) (s : Int) : Str := if wh > 0 ∧ moreOf st wh b s = true then Str.ofString "02" else Str.ofString "00"
theorem more_iff {st : St} {wh : Int} {us : List TRow} {b : Bytes} {s : Int} (h : Sorted st wh us) : (∃ t ∈ us, (t.b.toList == b.toList && decide (s < t.s)) = true) ↔ moreOf st wh b s = true := by
  unfold moreOf
  rw [List.any_eq_true]
  constructor
  · rintro ⟨t, ht, h1⟩
    obtain ⟨i, hi, e⟩ := List.mem_map.mp (h.1.mem_iff.mp (List.mem_map_of_mem (f := TRow.key) ht))
    exact ⟨i, hi, by rw [e]; exact h1⟩
  · rintro ⟨i, hi, h1⟩
    obtain ⟨t, ht, e⟩ := List.mem_map.mp (h.1.mem_iff.mpr (List.mem_map_of_mem (f := keyAt st wh) hi))
    refine ⟨t, ht, ?_⟩
    rw [← e] at h1; exact h1
theorem sub4 {α : Type} {a b c d p : α} {R : List α} (h : p ∈ [a, b, c, d]) : p ∈ a :: b :: c :: d :: R := List.mem_append_left (as := [a, b, c, d]) R h

theorem w_DC8_0 : True := by
  k_with_none
  (k_with "eval Name" => (k_here; k_dflt (refine' nameX_L (by k_asm) (by rfl) ?_ (by rfl) (by rfl); k_whole)))
  (k_with "cj" => (first | assumption | exact And.left (by assumption) | exact And.left (And.right (by assumption)) | exact And.right (by assumption) | exact And.left (And.right (And.right (by assumption))) | exact And.right (And.right (by assumption)) | exact And.left (And.right (And.right (And.right (by assumption)))) | exact And.right (And.right (And.right (by assumption))) | exact And.left (And.right (And.right (And.right (And.right (by assumption))))) | exact And.right (And.right (And.right (And.right (by assumption)))) | exact And.left (And.right (And.right (And.right (And.right (And.right (by assumption)))))) | exact And.right (And.right (And.right (And.right (And.right (by assumption))))) | exact And.left (And.right (And.right (And.right (And.right (And.right (And.right (by assumption))))))) | exact And.right (And.right (And.right (And.right (And.right (And.right (by assumption)))))) | exact And.left (And.right (And.right (And.right (And.right (And.right (And.right (And.right (by assumption)))))))) | exact And.right (And.right (And.right (And.right (And.right (And.right (And.right (by assumption))))))) | exact And.left (And.right (And.right (And.right (And.right (And.right (And.right (And.right (And.right (by assumption))))))))) | exact And.right (And.right (And.right (And.right (And.right (And.right (And.right (And.right (by assumption)))))))) | exact And.left (And.right (And.right (And.right (And.right (And.right (And.right (And.right (And.right (And.right (by assumption)))))))))) | exact And.right (And.right (And.right (And.right (And.right (And.right (And.right (And.right (And.right (by assumption))))))))) | exact And.left (And.right (And.right (And.right (And.right (And.right (And.right (And.right (And.right (And.right (And.right (by assumption))))))))))) | exact And.right (And.right (And.right (And.right (And.right (And.right (And.right (And.right (And.right (And.right (by assumption)))))))))) | exact And.left (And.right (And.right (And.right (And.right (And.right (And.right (And.right (And.right (And.right (And.right (And.right (by assumption)))))))))))) | exact And.right (And.right (And.right (And.right (And.right (And.right (And.right (And.right (And.right (And.right (And.right (by assumption))))))))))) | exact And.left (And.right (And.right (And.right (And.right (And.right (And.right (And.right (And.right (And.right (And.right (And.right (And.right (by assumption))))))))))))) | exact And.right (And.right (And.right (And.right (And.right (And.right (And.right (And.right (And.right (And.right (And.right (And.right (by assumption)))))))))))) | exact And.left (And.right (And.right (And.right (And.right (And.right (And.right (And.right (And.right (And.right (And.right (And.right (And.right (And.right (by assumption)))))))))))))) | exact And.right (And.right (And.right (And.right (And.right (And.right (And.right (And.right (And.right (And.right (And.right (And.right (And.right (by assumption)))))))))))))))
  (k_with "cj2" => (first | k_extra "cj" | exact Nat.lt_succ_of_lt (by k_extra "cj") | exact Nat.lt_succ_of_lt (Nat.lt_succ_of_lt (by k_extra "cj")) | exact Nat.lt_succ_self _))
  (k_with "om" => (first | (with_reducible assumption) | (with_reducible exact Nat.ne_of_gt (by k_extra "cj")) | (with_reducible exact Nat.ne_of_lt (by k_extra "cj")) | (with_reducible k_extra "cj2") | (with_reducible exact Nat.ne_of_lt (by k_extra "cj2")) | (with_reducible exact Nat.ne_of_gt (by k_extra "cj2")) | (with_reducible exact Ne.symm (by k_extra "cj")) | omega))
  (k_with "k_ne" => (refine neN ?_; (try dsimp only); k_extra "om"))
  trivial
theorem w_DC8_0_0 : True := by
  (k_with "m_enter" => (((have _ : PySem.Challenge.rw_pb0243_02 = PySem.Challenge.rw_pb0243_02 → hd02.heap_39 = hd02.heap_39 := by k_fill; exact fun _ => rfl); k_dflt (refine' enterM (binds := by k_extra "binds") (by k_asm) (by k_asm) (by k_asm) (by k_asm) (by k_asm) (by exact rfl) (by exact rfl) (by assumption) (by k_is) (by k_is) (by ktr_room) (by exact BindsTo.of_eq rfl) (by exact locs rfl) ?_ (by exact rfl) (by exact rfl) (by exact rfl) (by decide); k_whole; intro _ _ _ _ _ _ _ _ _ _; (try dsimp only [List.reverse_cons, List.reverse_nil, List.nil_append, List.cons_append, List.length_cons, List.length_nil]); (try k_fold)))))
  (k_with "m_end" => ((iterate 4 (first | (k_unfold; (try dsimp only)) | dsimp only | skip))))
  (k_with "call builtin:len" => ((k_here; (with_reducible show wpAny _ _ (call (Value.builtin "len") [Value.ref _]) _ _ _); (refine' m_len (by k_asm) (by k_mem) (by omega) ?_))))
  (k_with "subscriptTail" => ((k_here; (with_reducible show wpAny _ _ (subscriptTail _ _ (Value.ref _) (Value.int (Nat.cast _) _)) _ _ _); (refine' m_item (by k_asm) (by k_mem) (by assumption) (by omega) ?_))))
  (k_with "pyIter ref" => ((k_here; (rename LoopInv _ => hJ); (rename Fr _ _ _ _ => yF); (rename News _ _ _ _ => yN); (rename IsRange _ _ _ _ _ _ _ _ => rgX); (with_unfolding_all refine' loop_rangeM hJ (by rfl) (by rfl) rgX rfl yF yN ?_ ?_ ?_ ?_))))
  (k_with "TurnPost" => ((dsimp only [TurnPost])))
  (k_with "call ref" => ((k_here; (with_reducible show wpAny _ _ (call (Value.ref 89) [Value.ref _, Value.bytes _ _, Value.int _ _]) _ _ _); k_dflt (refine' MR.use (m_worth ?_ ?_) (by k_asm) (by k_asm) (by k_asm) (by k_asm) (by k_asm) (by first | exact rfl | assumption) (by assumption) (by assumption) (by k_mem) (by k_mem) (by k_mem) (by k_mem) (by ktr_room) (by ktr_units) True.intro ?_; (first | decide | assumption); assumption); rintro _ _ _ _ _ _ ⟨_, rfl⟩; (try k_sweep); (try k_fold))))
  (k_with "exec For Name Call cons nil" => ((refine hold_stop (by assumption) ?_)))
  (k_with "exec For Name Name cons nil" => ((refine hold_stop (by assumption) ?_)))
  (k_with "k_all" => (assumption))
  (k_with "call builtin:list.append" => ((k_here; (try dsimp only [List.nil_append, List.cons_append]); (with_reducible show wpAny _ _ (call (Value.builtin "list.append") [Value.ref _, _]) _ _ _); (refine' m_append (by k_asm) (by k_asm) (by k_upd) (by omega) ?_); intro _ _ _; (try k_sweep))))
  (k_with "call builtin:list.pop" => ((k_here; (try dsimp only [List.nil_append, List.cons_append]); (with_reducible show wpAny _ _ (call (Value.builtin "list.pop") [Value.ref _, Value.int (Nat.cast _) _]) _ _ _); (refine' m_popAt (by k_asm) (by k_asm) (by k_upd) (by assumption) (by omega) ?_); intro _ _ _; (try k_sweep))))
  (k_with "eval ListComp" => ((k_here; (rename CompInv _ => hJ); k_dflt (first | (refine PyProof.Rows.LCg.ListComp_U (F₀ := by k_asm) (by with_unfolding_all rfl) (by decide) (by rfl) (by decide) (by rfl) ?_) | (refine PyProof.Rows.LCt.ListComp_T (F₀ := by k_asm) (by with_unfolding_all rfl) (by decide) (by rfl) (by decide) (by rfl) ?_)))))
  (k_with "exec Assign cons ListComp" => ((k_here; (rename CompInv _ => hJ); k_dflt (first | (refine PyProof.Rows.LCg.Assign_ListComp_U (F₀ := by k_asm) (by rfl) (by with_unfolding_all rfl) (by with_unfolding_all rfl) (by decide) (by rfl) (by decide) (by rfl) (by rfl) (by rfl) ?_) | (refine PyProof.Rows.LCt.Assign_ListComp_T (F₀ := by k_asm) (by rfl) (by with_unfolding_all rfl) (by with_unfolding_all rfl) (by decide) (by rfl) (by decide) (by rfl) (by rfl) (by rfl) ?_)))))
  (k_with "CompSrc" => ((k_here; (rename CompInv _ => hJ); k_dflt (first | (refine' comp_listM hJ (by rfl) (by k_asm) (by k_asm) (by k_mem) ?_ ?_ ?_ ?_) | (refine' comp_rangeM hJ (by rfl) (by k_asm) (by k_asm) (by assumption) (by rfl) ?_ ?_ ?_ ?_)))))
  (k_with "CompSrcT" => ((k_here; (rename CompInv _ => hJ); k_dflt (refine' comp_listTM hJ (by rfl) (by k_asm) (by k_asm) (by k_mem) ?_ ?_ ?_ ?_))))
  (k_with "call builtin:list.index" => ((k_here; (try dsimp only [List.nil_append, List.cons_append]); (with_reducible show wpAny _ _ (call (Value.builtin "list.index") [Value.ref _, Value.int _ _]) _ _ _); (refine' m_index (by is_list) (by assumption) (by omega) (by first | assumption | exact any_mem (by assumption)) ?_))))
  (k_with "m_enterC" => (((have _ : PySem.Challenge.rw_pb0243_02 = PySem.Challenge.rw_pb0243_02 → hd02.heap_39 = hd02.heap_39 := by k_fill; exact fun _ => rfl); k_dflt (refine' enterC (binds := by k_extra "binds") (by k_asm) (by k_asm) (by k_asm) (by k_asm) (by k_asm) (by exact rfl) (by exact rfl) (by assumption) (by k_is) (by k_is) (by ktr_room) (by exact BindsTo.of_eq rfl) (by exact rfl) (by decide +kernel) ?_ (by exact rfl) (by exact rfl) (by exact rfl); k_whole; intro _ _ _ _ _ _ _ yN yY _ _ _ _ yl1; (try k_lt yl1); k_cells yY; (try simp only [List.cons_append, List.nil_append] at yN); (with_reducible ktr_call "hid" (News _ _ _ _)); (try (revert yl1; intro _)); (try dsimp only); (try k_fold)))))
  (k_with "exec For Name Name cons nil" => ((refine hold_stop (by assumption) ?_)))
  (k_with "pyIter ref" => ((k_here; (rename LoopInvY _ _ _ => hJ); (rename Fr _ _ _ _ => yF); (rename News _ _ _ _ => yN); (with_unfolding_all refine' loop_listY hJ (by rfl) (by rfl) rfl yF yN ?_ ?_ ?_ ?_))))
  (k_with "binaryOp Add bytes bytes" => ((k_here; (with_reducible show wpAny _ _ (binaryOp Operator.Add (Value.bytes _ _) (Value.bytes _ _)) _ _ _); (refine KBy.add_bytes (by first | with_unfolding_all exact Nat.le_trans (Nat.add_le_add (by assumption) (Nat.le_refl _)) (by decide)) ?_); intro _ _)))
  (k_with "compareOp NotEq ref ref" => ((k_here; (with_reducible show wpAny _ _ (compareOp CmpOp.NotEq (Value.ref _) (Value.ref _)) _ _ _); (with_reducible rename News _ _ _ _ => nN'); k_dflt (refine' m_ne_nil2 nN' (by k_mem) (by k_mem) (by ke_room) ?_))))
  (k_with "k_off" => (((try dsimp only [List.take, OffAll]); (repeat' (first | exact True.intro | refine And.intro ?_ ?_ | (refine off4 ?_ ?_ ?_ ?_ <;> k_extra "om"))))))
  (k_with "call ref" => ((k_here; (with_reducible rename Fr _ _ _ _ => yFo); (with_reducible show wpAny _ _ (call (Value.ref 96) [Value.ref _, Value.int _ _]) _ _ _); k_dflt (refine' MR.use (m_ordered ?_ ?_) (by k_asm) (by k_asm) (by k_asm) (by k_asm) (by k_asm) (by first | exact rfl | assumption) (by assumption) (by assumption) (by k_mem) (by k_mem) (by k_mem) (by k_mem) (by ktr_room) (by ktr_units) True.intro ?_; (first | decide | assumption | omega); (first | assumption | omega)); rintro _ _ _ _ yN _ ⟨_, _, _, rfl, yeD, ynD, yeus, _⟩; (have yN2 := led_growZ yFo yN yeD ynD yeus); clear yN yeD ynD; (try simp only [List.cons_append, List.nil_append] at yN2); (with_reducible ktr_call "hid" (News _ _ _ _)); (have yus := yeus); clear yeus; revert yus; intro _; (try k_sweep); (try k_fold))))
  (k_with "call ref" => ((k_here; (with_reducible show wpAny _ _ (call (Value.ref 117) [Value.ref _, Value.int _ _, Value.ref _]) _ _ _); (rename RestK _ => hRK); k_dflt (refine' MC.useK hRK (m_stand ?_) (by k_asm) (by k_asm) (by k_asm) (by k_asm) (by k_asm) (by first | exact rfl | assumption) (by assumption) (by assumption) (by k_mem) (by k_mem) (by k_mem) (by k_mem) (by ktr_room) (by ktr_units) True.intro (by k_extra "k_off") ?_; (first | decide | assumption | omega)); (with_reducible rename Fx _ _ _ => yfxO); rintro _ _ _ _ _ _ _ yN _ ⟨_, _, _, _, _, _, _, _, _, rfl, -, yfx⟩ ⟨rfl, rfl, rfl⟩; (first | (rename FxNext _ _ _ => yfxn; have yfxG := yfxn.fx; clear yfxn) | (have yfxG := Fx.of2 yfx yfxO rfl rfl)); clear yfx; (try simp only [List.cons_append, List.nil_append, List.take] at yN); (with_reducible ktr_call "hid" (Fx _ _ _)); (with_reducible ktr_call "hid" (News _ _ _ _)); (try k_sweep); (try k_fold))))
  (k_with "pyIter ref" => ((refine hold_iter (by assumption) ?_)))
  (k_with "CompSrcT" => ((refine hold_iter (by assumption) ?_)))
  (k_with "CompSrc" => ((refine hold_iter (by assumption) ?_)))
  (k_with "exec Assign cons ListComp" => ((k_here; (rename StopIter => hJ); k_dflt (first | (refine PyProof.Rows.LCt.Assign_ListComp_T (F₀ := by k_asm) (by rfl) (by with_unfolding_all rfl) (by with_unfolding_all rfl) (by decide) (by rfl) (by decide) (by rfl) (by rfl) (by rfl) ?_)))))
  (k_with "exec For Name Call cons nil" => ((k_here; (rename StopIter => hJX); (rename Fr _ _ _ _ => lF'); (with_unfolding_all refine' For_invVF lF' (by exact rfl) (by exact rfl) ?_; k_whole))))
  trivial
theorem m_found0 {w : World} {I : Ids} {st : St} {atv : Value} {tw : Tok} {u : TRow} {i : Nat}  (h60 : st.cs.length < 60) (hub : u.b.size ≤ 1000) (hi' : i < st.cs.length) (hp : u.p = (i : Int)) :
    MC w I 129 9 90 [.ref I.x, .ref u.a, .int 0 tw] st atv (fun h => h.get? u.a = some u.obj ∧ u.a ∉ I.adr) (fun h v st' atv' h' => (∃ a t1 t2, v = .ref a ∧ h'.get? a = some (tupOf [.str (statOf st 0 u.b u.s) t1, .bytes (st.cs.getD i default).1 t2]) ∧ h.get? a = none) ∧ st' = { st with which := 0, nowhere := false, last := (firsts st).getD i 0 } ∧ AtN h (hideAll h' I.adr) atv' (if (0:Int) > 0 then u.b else u.b ++ #[0]) (if (0:Int) > 0 then u.s else -1)) := by
  constructor
  intro p loose mean mg mb dp un gd cn cs a ccd cl outer A₀ base h₀ L m led s Q E B F X N T hk hd hu KF pre hret
  obtain ⟨kt, tm, ta, tn, twh, tl, hi, nc, ns, rfl, ok, fx⟩ := id KF
  (k_with "binds" => exact ([(Str.ofString "self", .ref I.x), (Str.ofString "row", .ref u.a), (Str.ofString "which", .int 0 tw)]))
  k_extra "m_enterC"
  rename_i g L₁ h₁ tkk FG F₁ B₁ X₁ T₁ G l1 o1 o2 c1 c2 N₁
  have fxg := fx.keeps (gsub_hide G)
  have hlen := fxg.len
  have hrl := fxg.rlen
  have hx : st.cs[i]? = some st.cs[i] := List.getElem?_eq_getElem hi'
  have hy : st.rows[i]? = some (st.rows[i]'(by k_extra "om")) := List.getElem?_eq_getElem (by k_extra "om")
  have hr3 := fxg.rv3 _ (List.mem_of_getElem? hy)
  obtain ⟨vs, nr, er, ir⟩ := fxg.rows _ (List.mem_of_getElem? hy)
  generalize st.cs[i] = rc at hx
  generalize st.rows[i]'(by k_extra "om") = rr at hy hr3 er ir
  have hcs : (st.cs.getD i default).1 = rc.1 := by rw [List.getD_eq_getElem?_getD, hx]; rfl
  have hls : (firsts st).getD i 0 = rr.v.getD 0 0 := by unfold firsts; rw [List.getD_eq_getElem?_getD, List.getElem?_map, hy]; rfl
  rw [hcs, hls, if_neg (by decide), if_neg (by decide)] at hret
  have hfx : Fx g I { st with which := 0, nowhere := false, last := rr.v.getD 0 0 } := Fx.same fxg rfl rfl (.inl rfl)
  have lk := isListOf er
  have eu := G _ _ pre.1 pre.2
  have ltu := isTupOf eu
  rw [hp] at ltu
  have n1 := ok.n1
  have n4 := ok.n4
  have n5 := ok.n5
  have hN : FxNext g I { st with which := 0, nowhere := false, last := rr.v.getD (Int.toNat 0) 0 } := ⟨hfx⟩
  clear hfx
  have hR : RestK 3 := ⟨⟩
  have hS : StopIter := ⟨⟩

  all_goals
    k_steps
    unfold Hold
    rename StopIter => hS0; clear hS0
    with_reducible rename News _ _ _ _ => N2
    with_reducible rename Fr _ _ _ _ => F2
    with_reducible rename Sorted _ _ _ => sus
    rename_i hcur tkc keepc Dx cx us eus
    have hul : us.length = st.cs.length := by have := sus.1.length_eq; simpa using this
    have hJ : CompInv (fun k ys nx => nx = ledOf N2 ∧ ys.length ≤ k ∧ (ys ≠ [] ↔ ∃ t ∈ us.take k, (t.b.toList == u.b.toList && decide (u.s < t.s)) = true)) := ⟨⟩
    dsimp only [ledOf] at hJ
    k_steps
    · unfold Hold; rw [List.length_map]; omega
    · exact ⟨rfl, Nat.le_refl _, by simp⟩
    · unfold Hold
      rintro k v ys _ I' oI C oC D2 m₂ h tk E' hk' hv ⟨rfl, hyl, hys⟩ hns hm₂ F3 N3 off ne3
      obtain ⟨t, ht, rfl⟩ := row_at hv
      have N4 := News.dup3 N3 (p := (t.a, t.obj)) (.tail _ (.tail _ (.tail _ (.tail _ (.tail _ (.tail _ (.tail _ (.tail _ (row_mem ht)))))))))
      clear N3
      k_steps
      all_goals
        with_reducible rename Fr _ _ _ _ => mF
        with_reducible rename News _ _ _ _ => mN
      · refine PyProof.Rows.LCg.CompEnd.intro mF mN (ledOf N2) sub_dup3 off (.inr ⟨_, .head _, rfl, _, rfl⟩) ⟨rfl, by rw [List.length_append, List.length_singleton]; omega, step_in (P := fun t => t.b.toList == u.b.toList && decide (u.s < t.s)) ht ?_⟩
        simp only [Bool.and_eq_true, decide_eq_true_eq]
        exact ⟨by assumption, by assumption⟩
      · refine PyProof.Rows.LCg.CompEnd.intro mF mN (ledOf N2) sub_dup3 off (.inr ⟨_, .head _, rfl, _, rfl⟩) ⟨rfl, by omega, step_out (P := fun t => t.b.toList == u.b.toList && decide (u.s < t.s)) hys ht ?_⟩
        simp only [Bool.and_eq_false_iff, decide_eq_false_iff_not]
        exact .inr (by assumption)
      · refine PyProof.Rows.LCg.CompEnd.intro mF mN (ledOf N2) sub_dup3 off (.inr ⟨_, .head _, rfl, _, rfl⟩) ⟨rfl, by omega, step_out (P := fun t => t.b.toList == u.b.toList && decide (u.s < t.s)) hys ht ?_⟩
        simp only [Bool.and_eq_false_iff, decide_eq_false_iff_not]
        exact .inl (by assumption)
    · unfold Hold
      rintro gg ys _ ⟨rfl, hyl, hys⟩ D h tk F6 N6 off6
      rw [List.length_map, List.take_length] at hys
      have hmo := hys.trans (more_iff sus)
      k_steps
      all_goals
        k_extra "m_end"
        with_reducible rename Fr _ _ _ _ => mF
        with_reducible rename News _ _ _ _ => mN
      have hst : statOf st 0 u.b u.s = Str.ofString "00" := by unfold statOf; exact if_neg (fun q => absurd q.1 (by decide))
      rw [hst] at hret
      exact ⟨_, _, mF, hret _ { st with which := 0, nowhere := false, last := rr.v.getD 0 0 } _ _ _ (led4 _ _ _ _ _ _ _ _ _ _ _ _ _) (Fr.back FG mF) (News.back FG fun p hp => mN p (.tail _ (.tail _ (.tail _ (sub4 hp))))) (keep_back G mF) ⟨_, _, _, _, _, _, _, _, _, rfl, ok, Fx.same (fx.keeps (gsub_hide2 (keep_back G mF))) rfl rfl (.inl rfl)⟩ ⟨⟨_, _, _, rfl, (mN _ (.head _)).1, new_none G mN (.head _) (off4 (by k_extra "om") (by k_extra "om") (by k_extra "om") (by k_extra "om"))⟩, rfl, ⟨_, _, _, rfl, hideAll_get _ (mN _ (.tail _ (.tail _ (.tail _ (.tail _ (.tail _ (.tail _ (.tail _ (.head _))))))))).1 (off4 (by k_extra "om") (by k_extra "om") (by k_extra "om") (by k_extra "om")), new_none G mN (.tail _ (.tail _ (.tail _ (.tail _ (.tail _ (.tail _ (.tail _ (.head _)))))))) (off4 (by k_extra "om") (by k_extra "om") (by k_extra "om") (by k_extra "om"))⟩⟩⟩

theorem w_DC8_1 : True := by
  k_with_none
  (k_with "eval Name" => (k_here; k_dflt (refine' nameX_L (by k_asm) (by rfl) ?_ (by rfl) (by rfl); k_whole)))
  (k_with "cj" => (first | assumption | exact And.left (by assumption) | exact And.left (And.right (by assumption)) | exact And.right (by assumption) | exact And.left (And.right (And.right (by assumption))) | exact And.right (And.right (by assumption)) | exact And.left (And.right (And.right (And.right (by assumption)))) | exact And.right (And.right (And.right (by assumption))) | exact And.left (And.right (And.right (And.right (And.right (by assumption))))) | exact And.right (And.right (And.right (And.right (by assumption)))) | exact And.left (And.right (And.right (And.right (And.right (And.right (by assumption)))))) | exact And.right (And.right (And.right (And.right (And.right (by assumption))))) | exact And.left (And.right (And.right (And.right (And.right (And.right (And.right (by assumption))))))) | exact And.right (And.right (And.right (And.right (And.right (And.right (by assumption)))))) | exact And.left (And.right (And.right (And.right (And.right (And.right (And.right (And.right (by assumption)))))))) | exact And.right (And.right (And.right (And.right (And.right (And.right (And.right (by assumption))))))) | exact And.left (And.right (And.right (And.right (And.right (And.right (And.right (And.right (And.right (by assumption))))))))) | exact And.right (And.right (And.right (And.right (And.right (And.right (And.right (And.right (by assumption)))))))) | exact And.left (And.right (And.right (And.right (And.right (And.right (And.right (And.right (And.right (And.right (by assumption)))))))))) | exact And.right (And.right (And.right (And.right (And.right (And.right (And.right (And.right (And.right (by assumption))))))))) | exact And.left (And.right (And.right (And.right (And.right (And.right (And.right (And.right (And.right (And.right (And.right (by assumption))))))))))) | exact And.right (And.right (And.right (And.right (And.right (And.right (And.right (And.right (And.right (And.right (by assumption)))))))))) | exact And.left (And.right (And.right (And.right (And.right (And.right (And.right (And.right (And.right (And.right (And.right (And.right (by assumption)))))))))))) | exact And.right (And.right (And.right (And.right (And.right (And.right (And.right (And.right (And.right (And.right (And.right (by assumption))))))))))) | exact And.left (And.right (And.right (And.right (And.right (And.right (And.right (And.right (And.right (And.right (And.right (And.right (And.right (by assumption))))))))))))) | exact And.right (And.right (And.right (And.right (And.right (And.right (And.right (And.right (And.right (And.right (And.right (And.right (by assumption)))))))))))) | exact And.left (And.right (And.right (And.right (And.right (And.right (And.right (And.right (And.right (And.right (And.right (And.right (And.right (And.right (by assumption)))))))))))))) | exact And.right (And.right (And.right (And.right (And.right (And.right (And.right (And.right (And.right (And.right (And.right (And.right (And.right (by assumption)))))))))))))))
  (k_with "cj2" => (first | k_extra "cj" | exact Nat.lt_succ_of_lt (by k_extra "cj") | exact Nat.lt_succ_of_lt (Nat.lt_succ_of_lt (by k_extra "cj")) | exact Nat.lt_succ_self _))
  (k_with "om" => (first | (with_reducible assumption) | (with_reducible exact Nat.ne_of_gt (by k_extra "cj")) | (with_reducible exact Nat.ne_of_lt (by k_extra "cj")) | (with_reducible k_extra "cj2") | (with_reducible exact Nat.ne_of_lt (by k_extra "cj2")) | (with_reducible exact Nat.ne_of_gt (by k_extra "cj2")) | (with_reducible exact Ne.symm (by k_extra "cj")) | omega))
  (k_with "k_ne" => (refine neN ?_; (try dsimp only); k_extra "om"))
  trivial
theorem w_DC8_1_0 : True := by
  (k_with "m_enter" => (((have _ : PySem.Challenge.rw_pb0243_02 = PySem.Challenge.rw_pb0243_02 → hd02.heap_39 = hd02.heap_39 := by k_fill; exact fun _ => rfl); k_dflt (refine' enterM (binds := by k_extra "binds") (by k_asm) (by k_asm) (by k_asm) (by k_asm) (by k_asm) (by exact rfl) (by exact rfl) (by assumption) (by k_is) (by k_is) (by ktr_room) (by exact BindsTo.of_eq rfl) (by exact locs rfl) ?_ (by exact rfl) (by exact rfl) (by exact rfl) (by decide); k_whole; intro _ _ _ _ _ _ _ _ _ _; (try dsimp only [List.reverse_cons, List.reverse_nil, List.nil_append, List.cons_append, List.length_cons, List.length_nil]); (try k_fold)))))
  (k_with "m_end" => ((iterate 4 (first | (k_unfold; (try dsimp only)) | dsimp only | skip))))
  (k_with "call builtin:len" => ((k_here; (with_reducible show wpAny _ _ (call (Value.builtin "len") [Value.ref _]) _ _ _); (refine' m_len (by k_asm) (by k_mem) (by omega) ?_))))
  (k_with "subscriptTail" => ((k_here; (with_reducible show wpAny _ _ (subscriptTail _ _ (Value.ref _) (Value.int (Nat.cast _) _)) _ _ _); (refine' m_item (by k_asm) (by k_mem) (by assumption) (by omega) ?_))))
  (k_with "pyIter ref" => ((k_here; (rename LoopInv _ => hJ); (rename Fr _ _ _ _ => yF); (rename News _ _ _ _ => yN); (rename IsRange _ _ _ _ _ _ _ _ => rgX); (with_unfolding_all refine' loop_rangeM hJ (by rfl) (by rfl) rgX rfl yF yN ?_ ?_ ?_ ?_))))
  (k_with "TurnPost" => ((dsimp only [TurnPost])))
  (k_with "call ref" => ((k_here; (with_reducible show wpAny _ _ (call (Value.ref 89) [Value.ref _, Value.bytes _ _, Value.int _ _]) _ _ _); k_dflt (refine' MR.use (m_worth ?_ ?_) (by k_asm) (by k_asm) (by k_asm) (by k_asm) (by k_asm) (by first | exact rfl | assumption) (by assumption) (by assumption) (by k_mem) (by k_mem) (by k_mem) (by k_mem) (by ktr_room) (by ktr_units) True.intro ?_; (first | decide | assumption); assumption); rintro _ _ _ _ _ _ ⟨_, rfl⟩; (try k_sweep); (try k_fold))))
  (k_with "exec For Name Call cons nil" => ((refine hold_stop (by assumption) ?_)))
  (k_with "exec For Name Name cons nil" => ((refine hold_stop (by assumption) ?_)))
  (k_with "k_all" => (assumption))
  (k_with "call builtin:list.append" => ((k_here; (try dsimp only [List.nil_append, List.cons_append]); (with_reducible show wpAny _ _ (call (Value.builtin "list.append") [Value.ref _, _]) _ _ _); (refine' m_append (by k_asm) (by k_asm) (by k_upd) (by omega) ?_); intro _ _ _; (try k_sweep))))
  (k_with "call builtin:list.pop" => ((k_here; (try dsimp only [List.nil_append, List.cons_append]); (with_reducible show wpAny _ _ (call (Value.builtin "list.pop") [Value.ref _, Value.int (Nat.cast _) _]) _ _ _); (refine' m_popAt (by k_asm) (by k_asm) (by k_upd) (by assumption) (by omega) ?_); intro _ _ _; (try k_sweep))))
  (k_with "eval ListComp" => ((k_here; (rename CompInv _ => hJ); k_dflt (first | (refine PyProof.Rows.LCg.ListComp_U (F₀ := by k_asm) (by with_unfolding_all rfl) (by decide) (by rfl) (by decide) (by rfl) ?_) | (refine PyProof.Rows.LCt.ListComp_T (F₀ := by k_asm) (by with_unfolding_all rfl) (by decide) (by rfl) (by decide) (by rfl) ?_)))))
  (k_with "exec Assign cons ListComp" => ((k_here; (rename CompInv _ => hJ); k_dflt (first | (refine PyProof.Rows.LCg.Assign_ListComp_U (F₀ := by k_asm) (by rfl) (by with_unfolding_all rfl) (by with_unfolding_all rfl) (by decide) (by rfl) (by decide) (by rfl) (by rfl) (by rfl) ?_) | (refine PyProof.Rows.LCt.Assign_ListComp_T (F₀ := by k_asm) (by rfl) (by with_unfolding_all rfl) (by with_unfolding_all rfl) (by decide) (by rfl) (by decide) (by rfl) (by rfl) (by rfl) ?_)))))
  (k_with "CompSrc" => ((k_here; (rename CompInv _ => hJ); k_dflt (first | (refine' comp_listM hJ (by rfl) (by k_asm) (by k_asm) (by k_mem) ?_ ?_ ?_ ?_) | (refine' comp_rangeM hJ (by rfl) (by k_asm) (by k_asm) (by assumption) (by rfl) ?_ ?_ ?_ ?_)))))
  (k_with "CompSrcT" => ((k_here; (rename CompInv _ => hJ); k_dflt (refine' comp_listTM hJ (by rfl) (by k_asm) (by k_asm) (by k_mem) ?_ ?_ ?_ ?_))))
  (k_with "call builtin:list.index" => ((k_here; (try dsimp only [List.nil_append, List.cons_append]); (with_reducible show wpAny _ _ (call (Value.builtin "list.index") [Value.ref _, Value.int _ _]) _ _ _); (refine' m_index (by is_list) (by assumption) (by omega) (by first | assumption | exact any_mem (by assumption)) ?_))))
  (k_with "m_enterC" => (((have _ : PySem.Challenge.rw_pb0243_02 = PySem.Challenge.rw_pb0243_02 → hd02.heap_39 = hd02.heap_39 := by k_fill; exact fun _ => rfl); k_dflt (refine' enterC (binds := by k_extra "binds") (by k_asm) (by k_asm) (by k_asm) (by k_asm) (by k_asm) (by exact rfl) (by exact rfl) (by assumption) (by k_is) (by k_is) (by ktr_room) (by exact BindsTo.of_eq rfl) (by exact rfl) (by decide +kernel) ?_ (by exact rfl) (by exact rfl) (by exact rfl); k_whole; intro _ _ _ _ _ _ _ yN yY _ _ _ _ yl1; (try k_lt yl1); k_cells yY; (try simp only [List.cons_append, List.nil_append] at yN); (with_reducible ktr_call "hid" (News _ _ _ _)); (try (revert yl1; intro _)); (try dsimp only); (try k_fold)))))
  (k_with "exec For Name Name cons nil" => ((refine hold_stop (by assumption) ?_)))
  (k_with "pyIter ref" => ((k_here; (rename LoopInvY _ _ _ => hJ); (rename Fr _ _ _ _ => yF); (rename News _ _ _ _ => yN); (with_unfolding_all refine' loop_listY hJ (by rfl) (by rfl) rfl yF yN ?_ ?_ ?_ ?_))))
  (k_with "binaryOp Add bytes bytes" => ((k_here; (with_reducible show wpAny _ _ (binaryOp Operator.Add (Value.bytes _ _) (Value.bytes _ _)) _ _ _); (refine KBy.add_bytes (by first | with_unfolding_all exact Nat.le_trans (Nat.add_le_add (by assumption) (Nat.le_refl _)) (by decide)) ?_); intro _ _)))
  (k_with "compareOp NotEq ref ref" => ((k_here; (with_reducible show wpAny _ _ (compareOp CmpOp.NotEq (Value.ref _) (Value.ref _)) _ _ _); (with_reducible rename News _ _ _ _ => nN'); k_dflt (refine' m_ne_nil2 nN' (by k_mem) (by k_mem) (by ke_room) ?_))))
  (k_with "k_off" => (((try dsimp only [List.take, OffAll]); (repeat' (first | exact True.intro | refine And.intro ?_ ?_ | (refine off4 ?_ ?_ ?_ ?_ <;> k_extra "om"))))))
  (k_with "call ref" => ((k_here; (with_reducible rename Fr _ _ _ _ => yFo); (with_reducible show wpAny _ _ (call (Value.ref 96) [Value.ref _, Value.int _ _]) _ _ _); k_dflt (refine' MR.use (m_ordered ?_ ?_) (by k_asm) (by k_asm) (by k_asm) (by k_asm) (by k_asm) (by first | exact rfl | assumption) (by assumption) (by assumption) (by k_mem) (by k_mem) (by k_mem) (by k_mem) (by ktr_room) (by ktr_units) True.intro ?_; (first | decide | assumption | omega); (first | assumption | omega)); rintro _ _ _ _ yN _ ⟨_, _, _, rfl, yeD, ynD, yeus, _⟩; (have yN2 := led_growZ yFo yN yeD ynD yeus); clear yN yeD ynD; (try simp only [List.cons_append, List.nil_append] at yN2); (with_reducible ktr_call "hid" (News _ _ _ _)); (have yus := yeus); clear yeus; revert yus; intro _; (try k_sweep); (try k_fold))))
  (k_with "call ref" => ((k_here; (with_reducible show wpAny _ _ (call (Value.ref 117) [Value.ref _, Value.int _ _, Value.ref _]) _ _ _); (rename RestK _ => hRK); k_dflt (refine' MC.useK hRK (m_stand ?_) (by k_asm) (by k_asm) (by k_asm) (by k_asm) (by k_asm) (by first | exact rfl | assumption) (by assumption) (by assumption) (by k_mem) (by k_mem) (by k_mem) (by k_mem) (by ktr_room) (by ktr_units) True.intro (by k_extra "k_off") ?_; (first | decide | assumption | omega)); (with_reducible rename Fx _ _ _ => yfxO); rintro _ _ _ _ _ _ _ yN _ ⟨_, _, _, _, _, _, _, _, _, rfl, -, yfx⟩ ⟨rfl, rfl, rfl⟩; (first | (rename FxNext _ _ _ => yfxn; have yfxG := yfxn.fx; clear yfxn) | (have yfxG := Fx.of2 yfx yfxO rfl rfl)); clear yfx; (try simp only [List.cons_append, List.nil_append, List.take] at yN); (with_reducible ktr_call "hid" (Fx _ _ _)); (with_reducible ktr_call "hid" (News _ _ _ _)); (try k_sweep); (try k_fold))))
  (k_with "pyIter ref" => ((refine hold_iter (by assumption) ?_)))
  (k_with "CompSrcT" => ((refine hold_iter (by assumption) ?_)))
  (k_with "CompSrc" => ((refine hold_iter (by assumption) ?_)))
  (k_with "exec Assign cons ListComp" => ((k_here; (rename StopIter => hJ); k_dflt (first | (refine PyProof.Rows.LCt.Assign_ListComp_T (F₀ := by k_asm) (by rfl) (by with_unfolding_all rfl) (by with_unfolding_all rfl) (by decide) (by rfl) (by decide) (by rfl) (by rfl) (by rfl) ?_)))))
  (k_with "exec For Name Call cons nil" => ((k_here; (rename StopIter => hJX); (rename Fr _ _ _ _ => lF'); (with_unfolding_all refine' For_invVF lF' (by exact rfl) (by exact rfl) ?_; k_whole))))
  trivial
theorem m_found1 {w : World} {I : Ids} {st : St} {atv : Value} {tw : Tok} {u : TRow} {i : Nat}  (h60 : st.cs.length < 60) (hub : u.b.size ≤ 1000) (hi' : i < st.cs.length) (hp : u.p = (i : Int)) :
    MC w I 129 9 90 [.ref I.x, .ref u.a, .int 1 tw] st atv (fun h => h.get? u.a = some u.obj ∧ u.a ∉ I.adr) (fun h v st' atv' h' => (∃ a t1 t2, v = .ref a ∧ h'.get? a = some (tupOf [.str (statOf st 1 u.b u.s) t1, .bytes (st.cs.getD i default).1 t2]) ∧ h.get? a = none) ∧ st' = { st with which := 1, nowhere := false, last := (firsts st).getD i 0 } ∧ AtN h (hideAll h' I.adr) atv' (if (1:Int) > 0 then u.b else u.b ++ #[0]) (if (1:Int) > 0 then u.s else -1)) := by
  constructor
  intro p loose mean mg mb dp un gd cn cs a ccd cl outer A₀ base h₀ L m led s Q E B F X N T hk hd hu KF pre hret
  obtain ⟨kt, tm, ta, tn, twh, tl, hi, nc, ns, rfl, ok, fx⟩ := id KF
  (k_with "binds" => exact ([(Str.ofString "self", .ref I.x), (Str.ofString "row", .ref u.a), (Str.ofString "which", .int 1 tw)]))
  k_extra "m_enterC"
  rename_i g L₁ h₁ tkk FG F₁ B₁ X₁ T₁ G l1 o1 o2 c1 c2 N₁
  have fxg := fx.keeps (gsub_hide G)
  have hlen := fxg.len
  have hrl := fxg.rlen
  have hx : st.cs[i]? = some st.cs[i] := List.getElem?_eq_getElem hi'
  have hy : st.rows[i]? = some (st.rows[i]'(by k_extra "om")) := List.getElem?_eq_getElem (by k_extra "om")
  have hr3 := fxg.rv3 _ (List.mem_of_getElem? hy)
  obtain ⟨vs, nr, er, ir⟩ := fxg.rows _ (List.mem_of_getElem? hy)
  generalize st.cs[i] = rc at hx
  generalize st.rows[i]'(by k_extra "om") = rr at hy hr3 er ir
  have hcs : (st.cs.getD i default).1 = rc.1 := by rw [List.getD_eq_getElem?_getD, hx]; rfl
  have hls : (firsts st).getD i 0 = rr.v.getD 0 0 := by unfold firsts; rw [List.getD_eq_getElem?_getD, List.getElem?_map, hy]; rfl
  rw [hcs, hls, if_pos (by decide), if_pos (by decide)] at hret
  have hfx : Fx g I { st with which := 1, nowhere := false, last := rr.v.getD 0 0 } := Fx.same fxg rfl rfl (.inr rfl)
  have lk := isListOf er
  have eu := G _ _ pre.1 pre.2
  have ltu := isTupOf eu
  rw [hp] at ltu
  have n1 := ok.n1
  have n4 := ok.n4
  have n5 := ok.n5
  have hN : FxNext g I { st with which := 1, nowhere := false, last := rr.v.getD (Int.toNat 0) 0 } := ⟨hfx⟩
  clear hfx
  have hR : RestK 3 := ⟨⟩
  have hS : StopIter := ⟨⟩

  all_goals
    k_steps
    unfold Hold
    rename StopIter => hS0; clear hS0
    with_reducible rename News _ _ _ _ => N2
    with_reducible rename Fr _ _ _ _ => F2
    with_reducible rename Sorted _ _ _ => sus
    rename_i hcur tkc keepc Dx cx us eus
    have hul : us.length = st.cs.length := by have := sus.1.length_eq; simpa using this
    have hJ : CompInv (fun k ys nx => nx = ledOf N2 ∧ ys.length ≤ k ∧ (ys ≠ [] ↔ ∃ t ∈ us.take k, (t.b.toList == u.b.toList && decide (u.s < t.s)) = true)) := ⟨⟩
    dsimp only [ledOf] at hJ
    k_steps
    · unfold Hold; rw [List.length_map]; omega
    · exact ⟨rfl, Nat.le_refl _, by simp⟩
    · unfold Hold
      rintro k v ys _ I' oI C oC D2 m₂ h tk E' hk' hv ⟨rfl, hyl, hys⟩ hns hm₂ F3 N3 off ne3
      obtain ⟨t, ht, rfl⟩ := row_at hv
      have N4 := News.dup3 N3 (p := (t.a, t.obj)) (.tail _ (.tail _ (.tail _ (.tail _ (.tail _ (.tail _ (.tail _ (.tail _ (row_mem ht)))))))))
      clear N3
      k_steps
      all_goals
        with_reducible rename Fr _ _ _ _ => mF
        with_reducible rename News _ _ _ _ => mN
      · refine PyProof.Rows.LCg.CompEnd.intro mF mN (ledOf N2) sub_dup3 off (.inr ⟨_, .head _, rfl, _, rfl⟩) ⟨rfl, by rw [List.length_append, List.length_singleton]; omega, step_in (P := fun t => t.b.toList == u.b.toList && decide (u.s < t.s)) ht ?_⟩
        simp only [Bool.and_eq_true, decide_eq_true_eq]
        exact ⟨by assumption, by assumption⟩
      · refine PyProof.Rows.LCg.CompEnd.intro mF mN (ledOf N2) sub_dup3 off (.inr ⟨_, .head _, rfl, _, rfl⟩) ⟨rfl, by omega, step_out (P := fun t => t.b.toList == u.b.toList && decide (u.s < t.s)) hys ht ?_⟩
        simp only [Bool.and_eq_false_iff, decide_eq_false_iff_not]
        exact .inr (by assumption)
      · refine PyProof.Rows.LCg.CompEnd.intro mF mN (ledOf N2) sub_dup3 off (.inr ⟨_, .head _, rfl, _, rfl⟩) ⟨rfl, by omega, step_out (P := fun t => t.b.toList == u.b.toList && decide (u.s < t.s)) hys ht ?_⟩
        simp only [Bool.and_eq_false_iff, decide_eq_false_iff_not]
        exact .inl (by assumption)
    · unfold Hold
      rintro gg ys _ ⟨rfl, hyl, hys⟩ D h tk F6 N6 off6
      rw [List.length_map, List.take_length] at hys
      have hmo := hys.trans (more_iff sus)
      k_steps
      all_goals
        k_extra "m_end"
        with_reducible rename Fr _ _ _ _ => mF
        with_reducible rename News _ _ _ _ => mN
      · with_reducible rename ys ≠ [] => hc
        have hst : statOf st 1 u.b u.s = Str.ofString "02" := by unfold statOf; exact if_pos ⟨by decide, hmo.mp hc⟩
        rw [hst] at hret
        exact ⟨_, _, mF, hret _ { st with which := 1, nowhere := false, last := rr.v.getD 0 0 } _ _ _ (led4 _ _ _ _ _ _ _ _ _ _ _ _ _) (Fr.back FG mF) (News.back FG fun p hp => mN p (.tail _ (.tail _ (.tail _ (.tail _ (sub4 hp)))))) (keep_back G mF) ⟨_, _, _, _, _, _, _, _, _, rfl, ok, Fx.same (fx.keeps (gsub_hide2 (keep_back G mF))) rfl rfl (.inr rfl)⟩ ⟨⟨_, _, _, rfl, (mN _ (.head _)).1, new_none G mN (.head _) (off4 (by k_extra "om") (by k_extra "om") (by k_extra "om") (by k_extra "om"))⟩, rfl, ⟨_, _, _, rfl, hideAll_get _ (mN _ (.tail _ (.tail _ (.tail _ (.tail _ (.tail _ (.tail _ (.tail _ (.tail _ (.head _)))))))))).1 (off4 (by k_extra "om") (by k_extra "om") (by k_extra "om") (by k_extra "om")), new_none G mN (.tail _ (.tail _ (.tail _ (.tail _ (.tail _ (.tail _ (.tail _ (.tail _ (.head _))))))))) (off4 (by k_extra "om") (by k_extra "om") (by k_extra "om") (by k_extra "om"))⟩⟩⟩
      · with_reducible rename ¬ (ys ≠ []) => hc
        have hst : statOf st 1 u.b u.s = Str.ofString "00" := by unfold statOf; exact if_neg (fun q => absurd (hmo.mpr q.2) hc)
        rw [hst] at hret
        exact ⟨_, _, mF, hret _ { st with which := 1, nowhere := false, last := rr.v.getD 0 0 } _ _ _ (led4 _ _ _ _ _ _ _ _ _ _ _ _ _) (Fr.back FG mF) (News.back FG fun p hp => mN p (.tail _ (.tail _ (.tail _ (.tail _ (sub4 hp)))))) (keep_back G mF) ⟨_, _, _, _, _, _, _, _, _, rfl, ok, Fx.same (fx.keeps (gsub_hide2 (keep_back G mF))) rfl rfl (.inr rfl)⟩ ⟨⟨_, _, _, rfl, (mN _ (.head _)).1, new_none G mN (.head _) (off4 (by k_extra "om") (by k_extra "om") (by k_extra "om") (by k_extra "om"))⟩, rfl, ⟨_, _, _, rfl, hideAll_get _ (mN _ (.tail _ (.tail _ (.tail _ (.tail _ (.tail _ (.tail _ (.tail _ (.tail _ (.head _)))))))))).1 (off4 (by k_extra "om") (by k_extra "om") (by k_extra "om") (by k_extra "om")), new_none G mN (.tail _ (.tail _ (.tail _ (.tail _ (.tail _ (.tail _ (.tail _ (.tail _ (.head _))))))))) (off4 (by k_extra "om") (by k_extra "om") (by k_extra "om") (by k_extra "om"))⟩⟩⟩

theorem w_DC8 : True := by
  k_with_none
  (k_with "eval Name" => (k_here; k_dflt (refine' nameX_L (by k_asm) (by rfl) ?_ (by rfl) (by rfl); k_whole)))
  (k_with "cj" => (first | assumption | exact And.left (by assumption) | exact And.left (And.right (by assumption)) | exact And.right (by assumption) | exact And.left (And.right (And.right (by assumption))) | exact And.right (And.right (by assumption)) | exact And.left (And.right (And.right (And.right (by assumption)))) | exact And.right (And.right (And.right (by assumption))) | exact And.left (And.right (And.right (And.right (And.right (by assumption))))) | exact And.right (And.right (And.right (And.right (by assumption)))) | exact And.left (And.right (And.right (And.right (And.right (And.right (by assumption)))))) | exact And.right (And.right (And.right (And.right (And.right (by assumption))))) | exact And.left (And.right (And.right (And.right (And.right (And.right (And.right (by assumption))))))) | exact And.right (And.right (And.right (And.right (And.right (And.right (by assumption)))))) | exact And.left (And.right (And.right (And.right (And.right (And.right (And.right (And.right (by assumption)))))))) | exact And.right (And.right (And.right (And.right (And.right (And.right (And.right (by assumption))))))) | exact And.left (And.right (And.right (And.right (And.right (And.right (And.right (And.right (And.right (by assumption))))))))) | exact And.right (And.right (And.right (And.right (And.right (And.right (And.right (And.right (by assumption)))))))) | exact And.left (And.right (And.right (And.right (And.right (And.right (And.right (And.right (And.right (And.right (by assumption)))))))))) | exact And.right (And.right (And.right (And.right (And.right (And.right (And.right (And.right (And.right (by assumption))))))))) | exact And.left (And.right (And.right (And.right (And.right (And.right (And.right (And.right (And.right (And.right (And.right (by assumption))))))))))) | exact And.right (And.right (And.right (And.right (And.right (And.right (And.right (And.right (And.right (And.right (by assumption)))))))))) | exact And.left (And.right (And.right (And.right (And.right (And.right (And.right (And.right (And.right (And.right (And.right (And.right (by assumption)))))))))))) | exact And.right (And.right (And.right (And.right (And.right (And.right (And.right (And.right (And.right (And.right (And.right (by assumption))))))))))) | exact And.left (And.right (And.right (And.right (And.right (And.right (And.right (And.right (And.right (And.right (And.right (And.right (And.right (by assumption))))))))))))) | exact And.right (And.right (And.right (And.right (And.right (And.right (And.right (And.right (And.right (And.right (And.right (And.right (by assumption)))))))))))) | exact And.left (And.right (And.right (And.right (And.right (And.right (And.right (And.right (And.right (And.right (And.right (And.right (And.right (And.right (by assumption)))))))))))))) | exact And.right (And.right (And.right (And.right (And.right (And.right (And.right (And.right (And.right (And.right (And.right (And.right (And.right (by assumption)))))))))))))))
  (k_with "cj2" => (first | k_extra "cj" | exact Nat.lt_succ_of_lt (by k_extra "cj") | exact Nat.lt_succ_of_lt (Nat.lt_succ_of_lt (by k_extra "cj")) | exact Nat.lt_succ_self _))
  (k_with "om" => (first | (with_reducible assumption) | (with_reducible exact Nat.ne_of_gt (by k_extra "cj")) | (with_reducible exact Nat.ne_of_lt (by k_extra "cj")) | (with_reducible k_extra "cj2") | (with_reducible exact Nat.ne_of_lt (by k_extra "cj2")) | (with_reducible exact Nat.ne_of_gt (by k_extra "cj2")) | (with_reducible exact Ne.symm (by k_extra "cj")) | omega))
  (k_with "k_ne" => (refine neN ?_; (try dsimp only); k_extra "om"))
  trivial
theorem m_found {w : World} {I : Ids} {st : St} {atv : Value} {wh : Int} {tw : Tok} {u : TRow} {i : Nat} (hw : wh = 0 ∨ wh = 1) (h60 : st.cs.length < 60) (hub : u.b.size ≤ 1000) (hi' : i < st.cs.length) (hp : u.p = (i : Int)) :
    MC w I 129 9 90 [.ref I.x, .ref u.a, .int wh tw] st atv (fun h => h.get? u.a = some u.obj ∧ u.a ∉ I.adr) (fun h v st' atv' h' => (∃ a t1 t2, v = .ref a ∧ h'.get? a = some (tupOf [.str (statOf st wh u.b u.s) t1, .bytes (st.cs.getD i default).1 t2]) ∧ h.get? a = none) ∧ st' = { st with which := wh, nowhere := false, last := (firsts st).getD i 0 } ∧ AtN h (hideAll h' I.adr) atv' (if wh > 0 then u.b else u.b ++ #[0]) (if wh > 0 then u.s else -1)) := by
  rcases hw with rfl | rfl
  · exact m_found0 h60 hub hi' hp
  · exact m_found1 h60 hub hi' hp

theorem w_DC9 : True := by
  k_with_none
  (k_with "eval Name" => (k_here; k_dflt (refine' nameX_L (by k_asm) (by rfl) ?_ (by rfl) (by rfl); k_whole)))
  (k_with "cj" => (first | assumption | exact And.left (by assumption) | exact And.left (And.right (by assumption)) | exact And.right (by assumption) | exact And.left (And.right (And.right (by assumption))) | exact And.right (And.right (by assumption)) | exact And.left (And.right (And.right (And.right (by assumption)))) | exact And.right (And.right (And.right (by assumption))) | exact And.left (And.right (And.right (And.right (And.right (by assumption))))) | exact And.right (And.right (And.right (And.right (by assumption)))) | exact And.left (And.right (And.right (And.right (And.right (And.right (by assumption)))))) | exact And.right (And.right (And.right (And.right (And.right (by assumption))))) | exact And.left (And.right (And.right (And.right (And.right (And.right (And.right (by assumption))))))) | exact And.right (And.right (And.right (And.right (And.right (And.right (by assumption)))))) | exact And.left (And.right (And.right (And.right (And.right (And.right (And.right (And.right (by assumption)))))))) | exact And.right (And.right (And.right (And.right (And.right (And.right (And.right (by assumption))))))) | exact And.left (And.right (And.right (And.right (And.right (And.right (And.right (And.right (And.right (by assumption))))))))) | exact And.right (And.right (And.right (And.right (And.right (And.right (And.right (And.right (by assumption)))))))) | exact And.left (And.right (And.right (And.right (And.right (And.right (And.right (And.right (And.right (And.right (by assumption)))))))))) | exact And.right (And.right (And.right (And.right (And.right (And.right (And.right (And.right (And.right (by assumption))))))))) | exact And.left (And.right (And.right (And.right (And.right (And.right (And.right (And.right (And.right (And.right (And.right (by assumption))))))))))) | exact And.right (And.right (And.right (And.right (And.right (And.right (And.right (And.right (And.right (And.right (by assumption)))))))))) | exact And.left (And.right (And.right (And.right (And.right (And.right (And.right (And.right (And.right (And.right (And.right (And.right (by assumption)))))))))))) | exact And.right (And.right (And.right (And.right (And.right (And.right (And.right (And.right (And.right (And.right (And.right (by assumption))))))))))) | exact And.left (And.right (And.right (And.right (And.right (And.right (And.right (And.right (And.right (And.right (And.right (And.right (And.right (by assumption))))))))))))) | exact And.right (And.right (And.right (And.right (And.right (And.right (And.right (And.right (And.right (And.right (And.right (And.right (by assumption)))))))))))) | exact And.left (And.right (And.right (And.right (And.right (And.right (And.right (And.right (And.right (And.right (And.right (And.right (And.right (And.right (by assumption)))))))))))))) | exact And.right (And.right (And.right (And.right (And.right (And.right (And.right (And.right (And.right (And.right (And.right (And.right (And.right (by assumption)))))))))))))))
  (k_with "cj2" => (first | k_extra "cj" | exact Nat.lt_succ_of_lt (by k_extra "cj") | exact Nat.lt_succ_of_lt (Nat.lt_succ_of_lt (by k_extra "cj")) | exact Nat.lt_succ_self _))
  (k_with "om" => (first | (with_reducible assumption) | (with_reducible exact Nat.ne_of_gt (by k_extra "cj")) | (with_reducible exact Nat.ne_of_lt (by k_extra "cj")) | (with_reducible k_extra "cj2") | (with_reducible exact Nat.ne_of_lt (by k_extra "cj2")) | (with_reducible exact Nat.ne_of_gt (by k_extra "cj2")) | (with_reducible exact Ne.symm (by k_extra "cj")) | omega))
  (k_with "k_ne" => (refine neN ?_; (try dsimp only); k_extra "om"))
  trivial
theorem w_DC9_0 : True := by
  (k_with "m_enter" => (((have _ : PySem.Challenge.rw_pb0243_02 = PySem.Challenge.rw_pb0243_02 → hd02.heap_39 = hd02.heap_39 := by k_fill; exact fun _ => rfl); k_dflt (refine' enterM (binds := by k_extra "binds") (by k_asm) (by k_asm) (by k_asm) (by k_asm) (by k_asm) (by exact rfl) (by exact rfl) (by assumption) (by k_is) (by k_is) (by ktr_room) (by exact BindsTo.of_eq rfl) (by exact locs rfl) ?_ (by exact rfl) (by exact rfl) (by exact rfl) (by decide); k_whole; intro _ _ _ _ _ _ _ _ _ _; (try dsimp only [List.reverse_cons, List.reverse_nil, List.nil_append, List.cons_append, List.length_cons, List.length_nil]); (try k_fold)))))
  (k_with "m_end" => ((iterate 4 (first | (k_unfold; (try dsimp only)) | dsimp only | skip))))
  (k_with "call builtin:len" => ((k_here; (with_reducible show wpAny _ _ (call (Value.builtin "len") [Value.ref _]) _ _ _); (refine' m_len (by k_asm) (by k_mem) (by omega) ?_))))
  (k_with "subscriptTail" => ((k_here; (with_reducible show wpAny _ _ (subscriptTail _ _ (Value.ref _) (Value.int (Nat.cast _) _)) _ _ _); (refine' m_item (by k_asm) (by k_mem) (by assumption) (by omega) ?_))))
  (k_with "pyIter ref" => ((k_here; (rename LoopInv _ => hJ); (rename Fr _ _ _ _ => yF); (rename News _ _ _ _ => yN); (rename IsRange _ _ _ _ _ _ _ _ => rgX); (with_unfolding_all refine' loop_rangeM hJ (by rfl) (by rfl) rgX rfl yF yN ?_ ?_ ?_ ?_))))
  (k_with "TurnPost" => ((dsimp only [TurnPost])))
  (k_with "call ref" => ((k_here; (with_reducible show wpAny _ _ (call (Value.ref 89) [Value.ref _, Value.bytes _ _, Value.int _ _]) _ _ _); k_dflt (refine' MR.use (m_worth ?_ ?_) (by k_asm) (by k_asm) (by k_asm) (by k_asm) (by k_asm) (by first | exact rfl | assumption) (by assumption) (by assumption) (by k_mem) (by k_mem) (by k_mem) (by k_mem) (by ktr_room) (by ktr_units) True.intro ?_; (first | decide | assumption); assumption); rintro _ _ _ _ _ _ ⟨_, rfl⟩; (try k_sweep); (try k_fold))))
  (k_with "exec For Name Call cons nil" => ((refine hold_stop (by assumption) ?_)))
  (k_with "exec For Name Name cons nil" => ((refine hold_stop (by assumption) ?_)))
  (k_with "k_all" => (assumption))
  (k_with "call builtin:list.append" => ((k_here; (try dsimp only [List.nil_append, List.cons_append]); (with_reducible show wpAny _ _ (call (Value.builtin "list.append") [Value.ref _, _]) _ _ _); (refine' m_append (by k_asm) (by k_asm) (by k_upd) (by omega) ?_); intro _ _ _; (try k_sweep))))
  (k_with "call builtin:list.pop" => ((k_here; (try dsimp only [List.nil_append, List.cons_append]); (with_reducible show wpAny _ _ (call (Value.builtin "list.pop") [Value.ref _, Value.int (Nat.cast _) _]) _ _ _); (refine' m_popAt (by k_asm) (by k_asm) (by k_upd) (by assumption) (by omega) ?_); intro _ _ _; (try k_sweep))))
  (k_with "eval ListComp" => ((k_here; (rename CompInv _ => hJ); k_dflt (first | (refine PyProof.Rows.LCg.ListComp_U (F₀ := by k_asm) (by with_unfolding_all rfl) (by decide) (by rfl) (by decide) (by rfl) ?_) | (refine PyProof.Rows.LCt.ListComp_T (F₀ := by k_asm) (by with_unfolding_all rfl) (by decide) (by rfl) (by decide) (by rfl) ?_)))))
  (k_with "exec Assign cons ListComp" => ((k_here; (rename CompInv _ => hJ); k_dflt (first | (refine PyProof.Rows.LCg.Assign_ListComp_U (F₀ := by k_asm) (by rfl) (by with_unfolding_all rfl) (by with_unfolding_all rfl) (by decide) (by rfl) (by decide) (by rfl) (by rfl) (by rfl) ?_) | (refine PyProof.Rows.LCt.Assign_ListComp_T (F₀ := by k_asm) (by rfl) (by with_unfolding_all rfl) (by with_unfolding_all rfl) (by decide) (by rfl) (by decide) (by rfl) (by rfl) (by rfl) ?_)))))
  (k_with "CompSrc" => ((k_here; (rename CompInv _ => hJ); k_dflt (first | (refine' comp_listM hJ (by rfl) (by k_asm) (by k_asm) (by k_mem) ?_ ?_ ?_ ?_) | (refine' comp_rangeM hJ (by rfl) (by k_asm) (by k_asm) (by assumption) (by rfl) ?_ ?_ ?_ ?_)))))
  (k_with "CompSrcT" => ((k_here; (rename CompInv _ => hJ); k_dflt (refine' comp_listTM hJ (by rfl) (by k_asm) (by k_asm) (by k_mem) ?_ ?_ ?_ ?_))))
  (k_with "call builtin:list.index" => ((k_here; (try dsimp only [List.nil_append, List.cons_append]); (with_reducible show wpAny _ _ (call (Value.builtin "list.index") [Value.ref _, Value.int _ _]) _ _ _); (refine' m_index (by is_list) (by assumption) (by omega) (by first | assumption | exact any_mem (by assumption)) ?_))))
  (k_with "m_enterC" => (((have _ : PySem.Challenge.rw_pb0243_02 = PySem.Challenge.rw_pb0243_02 → hd02.heap_39 = hd02.heap_39 := by k_fill; exact fun _ => rfl); k_dflt (refine' enterC (binds := by k_extra "binds") (by k_asm) (by k_asm) (by k_asm) (by k_asm) (by k_asm) (by exact rfl) (by exact rfl) (by assumption) (by k_is) (by k_is) (by ktr_room) (by exact BindsTo.of_eq rfl) (by exact rfl) (by decide +kernel) ?_ (by exact rfl) (by exact rfl) (by exact rfl); k_whole; intro _ _ _ _ _ _ _ yN yY _ _ _ _ yl1; (try k_lt yl1); k_cells yY; (try simp only [List.cons_append, List.nil_append] at yN); (with_reducible ktr_call "hid" (News _ _ _ _)); (try (revert yl1; intro _)); (try dsimp only); (try k_fold)))))
  (k_with "exec For Name Name cons nil" => ((refine hold_stop (by assumption) ?_)))
  (k_with "pyIter ref" => ((k_here; (rename LoopInvY _ _ _ => hJ); (rename Fr _ _ _ _ => yF); (rename News _ _ _ _ => yN); (with_unfolding_all refine' loop_listY hJ (by rfl) (by rfl) rfl yF yN ?_ ?_ ?_ ?_))))
  (k_with "binaryOp Add bytes bytes" => ((k_here; (with_reducible show wpAny _ _ (binaryOp Operator.Add (Value.bytes _ _) (Value.bytes _ _)) _ _ _); (refine KBy.add_bytes (by first | with_unfolding_all exact Nat.le_trans (Nat.add_le_add (by assumption) (Nat.le_refl _)) (by decide)) ?_); intro _ _)))
  (k_with "compareOp NotEq ref ref" => ((k_here; (with_reducible show wpAny _ _ (compareOp CmpOp.NotEq (Value.ref _) (Value.ref _)) _ _ _); (with_reducible rename News _ _ _ _ => nN'); k_dflt (refine' m_ne_nil2 nN' (by k_mem) (by k_mem) (by ke_room) ?_))))
  (k_with "k_off" => (((try dsimp only [List.take, OffAll]); (repeat' (first | exact True.intro | refine And.intro ?_ ?_ | (refine off4 ?_ ?_ ?_ ?_ <;> k_extra "om"))))))
  (k_with "call ref" => ((k_here; (with_reducible rename Fr _ _ _ _ => yFo); (with_reducible show wpAny _ _ (call (Value.ref 96) [Value.ref _, Value.int _ _]) _ _ _); k_dflt (refine' MR.use (m_ordered ?_ ?_) (by k_asm) (by k_asm) (by k_asm) (by k_asm) (by k_asm) (by first | exact rfl | assumption) (by assumption) (by assumption) (by k_mem) (by k_mem) (by k_mem) (by k_mem) (by ktr_room) (by ktr_units) True.intro ?_; (first | decide | assumption | omega); (first | assumption | omega)); rintro _ _ _ _ yN _ ⟨_, _, _, rfl, yeD, ynD, yeus, _⟩; (have yN2 := led_growZ yFo yN yeD ynD yeus); clear yN yeD ynD; (try simp only [List.cons_append, List.nil_append] at yN2); (with_reducible ktr_call "hid" (News _ _ _ _)); (have yus := yeus); clear yeus; revert yus; intro _; (try k_sweep); (try k_fold))))
  (k_with "call ref" => ((k_here; (with_reducible show wpAny _ _ (call (Value.ref 117) [Value.ref _, Value.int _ _, Value.ref _]) _ _ _); (rename RestK _ => hRK); k_dflt (refine' MC.useK hRK (m_stand ?_) (by k_asm) (by k_asm) (by k_asm) (by k_asm) (by k_asm) (by first | exact rfl | assumption) (by assumption) (by assumption) (by k_mem) (by k_mem) (by k_mem) (by k_mem) (by ktr_room) (by ktr_units) True.intro (by k_extra "k_off") ?_; (first | decide | assumption | omega)); (with_reducible rename Fx _ _ _ => yfxO); rintro _ _ _ _ _ _ _ yN _ ⟨_, _, _, _, _, _, _, _, _, rfl, -, yfx⟩ ⟨rfl, rfl, rfl⟩; (first | (rename FxNext _ _ _ => yfxn; have yfxG := yfxn.fx; clear yfxn) | (have yfxG := Fx.of2 yfx yfxO rfl rfl)); clear yfx; (try simp only [List.cons_append, List.nil_append, List.take] at yN); (with_reducible ktr_call "hid" (Fx _ _ _)); (with_reducible ktr_call "hid" (News _ _ _ _)); (try k_sweep); (try k_fold))))
  (k_with "pyIter ref" => ((refine hold_iter (by assumption) ?_)))
  (k_with "CompSrcT" => ((refine hold_iter (by assumption) ?_)))
  (k_with "CompSrc" => ((refine hold_iter (by assumption) ?_)))
  (k_with "exec Assign cons ListComp" => ((k_here; (rename StopIter => hJ); k_dflt (first | (refine PyProof.Rows.LCt.Assign_ListComp_T (F₀ := by k_asm) (by rfl) (by with_unfolding_all rfl) (by with_unfolding_all rfl) (by decide) (by rfl) (by decide) (by rfl) (by rfl) (by rfl) ?_)))))
  (k_with "exec For Name Call cons nil" => ((k_here; (rename StopIter => hJX); (rename Fr _ _ _ _ => lF'); (with_unfolding_all refine' For_invVF lF' (by exact rfl) (by exact rfl) ?_; k_whole))))
  (k_with "compareOp Gt ref ref" => ((k_here; (with_reducible show wpAny _ _ (compareOp CmpOp.Gt (Value.ref _) (Value.ref _)) _ _ _); (with_reducible rename News _ _ _ _ => nN'); (with_reducible rename Fr _ _ _ _ => nF'); k_dflt (refine' m_tup_gt nF' nN' (by k_mem) (by assumption) (by ke_room) ?_))))
  (k_with "compareOp NotIn str ref" => ((k_here; (with_reducible show wpAny _ _ (compareOp CmpOp.NotIn (Value.str _ _) (Value.ref _)) _ _ _); (with_reducible rename Fr _ _ _ _ => nF'); k_dflt (refine' notin_tuple_strs (isTupOf (nF'.keep _ _ (by assumption))) (by exact .cons _ _ (.cons _ _ .nil)) ?_))))
  (k_with "call ref" => ((k_here; (with_reducible show wpAny _ _ (call (Value.ref 129) [Value.ref _, Value.ref _, Value.int _ _]) _ _ _); (rename RestK _ => hRK); (with_reducible rename News _ _ _ _ => yN); (with_reducible rename Fr _ _ _ _ => yF); (have ywas := Was.mk yF yN); k_dflt (refine' MC.useK hRK (m_found ?_ ?_ ?_ ?_ ?_) (by k_asm) (by k_asm) (by k_asm) (by k_asm) (by k_asm) (by first | exact rfl | assumption) (by assumption) (by assumption) (by k_mem) (by k_mem) (by k_mem) (by k_mem) (by ktr_room) (by ktr_units) (by first | exact ⟨(yN (_, _) (by k_mem)).1, by assumption⟩) (by k_extra "k_off") ?_; rotate_left; assumption; assumption; assumption; assumption; assumption); (with_reducible ktr_call "hid" (Was _ _ _ _ _)); rintro _ _ _ _ _ _ _ yN' _ _ _; (try simp only [List.append_nil, List.take] at yN'); (with_reducible ktr_call "hid" (News _ _ _ _)); (try k_sweep))))
  (k_with "call ref" => ((k_here; (with_reducible show wpAny _ _ (call (Value.ref 124) [Value.ref _, Value.str _ _]) _ _ _); (rename RestK _ => hRK); (with_reducible rename News _ _ _ _ => yN); (with_reducible rename Fr _ _ _ _ => yF); (have ywas := Was.mk yF yN); k_dflt (refine' MC.useK hRK (m_lose) (by k_asm) (by k_asm) (by k_asm) (by k_asm) (by k_asm) (by first | exact rfl | assumption) (by assumption) (by assumption) (by k_mem) (by k_mem) (by k_mem) (by k_mem) (by ktr_room) (by ktr_units) True.intro (by k_extra "k_off") ?_); (with_reducible ktr_call "hid" (Was _ _ _ _ _)); intro _ _ _ _ _ _ _ _ _ _ _; (try k_sweep))))
  trivial
theorem reading_at {w : World} {g : Heap} (X : (hd02.heap_39 w.params).In g) : ∃ t1 t2, g.get? 63 = some (tupOf [.str (Str.ofString "input") t1, .str (Str.ofString "i-o") t2]) := ⟨_, _, X _ _ rfl⟩
noncomputable def firstGt (us : List TRow) (ab : Bytes) (ai : Int) (t : TRow) : Prop := ∃ k, us[k]? = some t ∧ gtP t.b t.s ab ai = true ∧ ∀ j (t' : TRow), @LT.lt Nat _ j k → us[j]? = some t' → gtP t'.b t'.s ab ai = false
noncomputable def Tup (h h' : Heap) (v : Value) (x : Str) (b : Bytes) : Prop := ∃ a t1 t2, v = .ref a ∧ h'.get? a = some (tupOf [.str x t1, .bytes b t2]) ∧ h.get? a = none
theorem none_back {h g hc : Heap} {adr : List Addr} {L a : Addr} {m : Str → Option Value} {news : List (Addr × Obj)} (G : GSub h g adr) (F : Fr g L hc m) (N : News g L hc news) (hs : ∀ b ∈ adr, ∃ o, (b, o) ∈ news) (e : hc.get? a = none) : h.get? a = none := by
  cases q : h.get? a with
  | none => rfl
  | some o =>
    by_cases ha : a ∈ adr
    · obtain ⟨o', h'⟩ := hs a ha
      have := (N _ h').1
      rw [e] at this; cases this
    · have := F.keep _ _ (G _ _ q ha)
      rw [e] at this; cases this
theorem Tup.back {h g hc h' : Heap} {v : Value} {x : Str} {b : Bytes} {adr : List Addr} {L : Addr} {m : Str → Option Value} {news : List (Addr × Obj)} (T : Tup hc h' v x b) (G : GSub h g adr) (F : Fr g L hc m) (N : News g L hc news) (hs : ∀ b ∈ adr, ∃ o, (b, o) ∈ news) : Tup h h' v x b := by
  obtain ⟨a, t1, t2, e1, e2, e3⟩ := T
  exact ⟨a, t1, t2, e1, e2, none_back G F N hs e3⟩
theorem AtN.back {h g hc h' : Heap} {v : Value} {b : Bytes} {i : Int} {adr : List Addr} {L : Addr} {m : Str → Option Value} {news : List (Addr × Obj)} (T : AtN hc h' v b i) (G : GSub h g adr) (F : Fr g L hc m) (N : News g L hc news) (hs : ∀ b ∈ adr, ∃ o, (b, o) ∈ news) : AtN h h' v b i := by
  obtain ⟨a, t1, t2, e1, e2, e3⟩ := T
  exact ⟨a, t1, t2, e1, e2, none_back G F N hs e3⟩
theorem News.dup1 {g h : Heap} {L : Addr} {a1 p : Addr × Obj} {nx : List (Addr × Obj)} (N : News g L h (a1 :: nx)) (hm : p ∈ nx) : News g L h (a1 :: p :: nx) := fun q hq => by
  rcases List.mem_cons.mp hq with rfl | hq
  · exact N _ (.head _)
  rcases List.mem_cons.mp hq with rfl | hq
  · exact N _ (.tail _ hm)
  · exact N _ (.tail _ hq)
theorem sub_dup1 {a1 p : Addr × Obj} {nx : List (Addr × Obj)} : ∀ q ∈ a1 :: nx, q ∈ a1 :: p :: nx := fun q hq => by
  rcases List.mem_cons.mp hq with rfl | hq
  · exact .head _
  · exact .tail _ (.tail _ hq)
theorem worthB_size (wh : Int) (b : Bytes) (h : b.size ≤ 1000) : (worthB wh b).size ≤ 1000 := Nat.le_trans (KBc.size_picked_le b _ _) h
theorem row_of {g : Heap} {I : Ids} {st : St} {wh : Int} {us : List TRow} {k : Nat} {t : TRow} (fx : Fx g I st) (h : Sorted st wh us) (ht : us[k]? = some t) : ∃ i, i < st.cs.length ∧ t.p = ((i : Nat) : Int) ∧ t.b.size ≤ 1000 := by
  obtain ⟨i, hi, e⟩ := List.mem_map.mp (h.1.mem_iff.mp (List.mem_map_of_mem (f := TRow.key) (List.mem_of_getElem? ht)))
  have hi2 := List.mem_range.mp hi
  refine ⟨i, hi2, (congrArg (fun x => x.2.2) e).symm, ?_⟩
  have e1 : worthB wh (st.cs.getD i default).1 = t.b := congrArg (fun x => x.1) e
  rw [← e1]
  refine worthB_size wh _ (fx.size _ ?_)
  rw [List.getD_eq_getElem?_getD, List.getElem?_eq_getElem hi2]
  exact List.getElem_mem hi2
theorem m_read_next {w : World} {I : Ids} {st : St} {atv : Value} {ab : Bytes} {ai : Int} (h60 : st.cs.length < 60) (hacc : I.acc = Str.ofString "dynamic" ∨ I.acc = Str.ofString "sequential") (hmode : I.mode = Str.ofString "i-o" ∨ I.mode = Str.ofString "input") :
    MC w I 136 12 130 [.ref I.x] st atv (fun h => AtIs (hideAll h I.adr) atv ab ai) (fun h v st' atv' h' => (st.nowhere = true ∧ Tup h h' v (Str.ofString "46") #[] ∧ st' = { st with last := -1 } ∧ atv' = atv) ∨ (st.nowhere = false ∧ ∃ us, Sorted st st.which us ∧ ((∃ t i, firstGt us ab ai t ∧ i < st.cs.length ∧ t.p = ((i : Nat) : Int) ∧ Tup h h' v (statOf st st.which t.b t.s) (st.cs.getD i default).1 ∧ st' = { st with nowhere := false, last := (firsts st).getD i 0 } ∧ AtN h (hideAll h' I.adr) atv' (if st.which > 0 then t.b else t.b ++ #[0]) (if st.which > 0 then t.s else -1)) ∨ ((∀ t ∈ us, gtP t.b t.s ab ai = false) ∧ Tup h h' v (Str.ofString "10") #[] ∧ st' = { st with nowhere := true, last := -1 } ∧ atv' = atv)))) := by
  constructor
  intro p loose mean mg mb dp un gd cn cs a ccd cl outer A₀ base h₀ L m led s Q E B F X N T hk hd hu KF pre hret
  obtain ⟨kt, tm, ta, tn, twh, tl, hi, nc, ns, rfl, ok, fx⟩ := id KF
  (k_with "binds" => exact ([(Str.ofString "self", .ref I.x)]))
  k_extra "m_enter"
  rename_i g L₁ h₁ FG F₁ N₁ B₁ X₁ T₁ G
  have fxg := fx.keeps (gsub_hide G)
  have hlen := fxg.len
  have hwh := fxg.wh
  have n1 := ok.n1
  have n4 := ok.n4
  have n5 := ok.n5
  obtain ⟨tA, ta1, ta2, rfl, eA⟩ := pre.keeps (gsub_hide G)
  obtain ⟨r1, r2, e63⟩ := reading_at X₁
  have hR : RestK 0 := ⟨⟩
  have hS : StopIter := ⟨⟩
  k_steps
  · with_reducible rename (I.acc == _) = true => hc
    rcases hacc with e | e <;> (rw [e] at hc; exact absurd hc (by decide))
  rotate_right
  · with_reducible rename List.any _ _ = false => hc
    rcases hmode with e | e <;> (rw [e] at hc; exact absurd hc (by decide))
  · with_reducible rename st.nowhere = true => hc
    k_extra "m_end"
    with_reducible rename Fr _ _ _ _ => mF
    with_reducible rename News _ _ _ _ => mN
    exact ⟨_, _, mF, hret _ { st with last := -1 } _ _ _ (led4 _ _ _ _ _ _ _ _ _ _ _ _ _) (Fr.back FG mF) (News.back FG fun p hp => mN p (.tail _ hp)) (keep_back G mF) ⟨_, _, _, _, _, _, _, _, _, rfl, ok, Fx.same (fx.keeps (gsub_hide2 (keep_back G mF))) rfl rfl fx.wh⟩ (.inl ⟨hc, ⟨_, _, _, rfl, (mN _ (.head _)).1, new_none G mN (.head _) (off4 (by k_extra "om") (by k_extra "om") (by k_extra "om") (by k_extra "om"))⟩, rfl, rfl⟩)⟩
  · unfold Hold
    rename StopIter => hS0; clear hS0
    with_reducible rename News _ _ _ _ => N2
    with_reducible rename Fr _ _ _ _ => F2
    with_reducible rename Sorted _ _ _ => sus
    rename_i hcur tkc keepc Dx cx us eus
    have hul : us.length = st.cs.length := by have := sus.1.length_eq; simpa using this
    have hJ : LoopInvY Dx (listOf (us.map fun t => Value.ref t.a).toArray cx) (fun k nx => nx = ledOf N2 ∧ ∀ j (t : TRow), @LT.lt Nat _ j k → us[j]? = some t → gtP t.b t.s ab ai = false) := ⟨⟩
    dsimp only [ledOf] at hJ
    k_steps
    · unfold Hold; rintro i nx ⟨rfl, _⟩; exact .head _
    · exact ⟨rfl, fun j t h => absurd h (Nat.not_lt_zero j)⟩
    · unfold Hold
      rintro I' i v _ h2 tk2 itO hi' hne ⟨rfl, hlt⟩ F3 N3
      obtain ⟨t, ht, rfl⟩ := row_at hi'
      obtain ⟨i0, hi0, hp0, hb0⟩ := row_of fxg sus ht
      have N4 := News.dup1 N3 (p := (t.a, t.obj)) (.tail _ (.tail _ (.tail _ (.tail _ (.tail _ (row_mem ht))))))
      have toff : t.a ∉ I.adr := tup_off2 (vs := [_, _, _]) N4 (.tail _ (.head _)) fun a ha => by
        rcases List.mem_cons.mp ha with rfl | ha
        · exact ⟨_, .tail _ (.tail _ (.tail _ (.head _))), by simp⟩
        rcases List.mem_cons.mp ha with rfl | ha
        · exact ⟨_, .tail _ (.tail _ (.tail _ (.tail _ (.head _)))), by simp⟩
        rcases List.mem_cons.mp ha with rfl | ha
        · exact ⟨_, .tail _ (.tail _ (.tail _ (.tail _ (.tail _ (.head _))))), by simp⟩
        rcases List.mem_cons.mp ha with rfl | ha
        · exact ⟨_, .tail _ (.tail _ (.tail _ (.tail _ (.tail _ (.tail _ (.head _)))))), by simp⟩
        cases ha
      clear N3
      k_steps
      · k_extra "m_end"
        with_reducible rename Fr _ _ _ _ => mF
        with_reducible rename News _ _ _ _ => mN
        with_reducible rename KFo _ _ _ _ _ _ => mK
        rename Was _ _ _ _ _ => ws
        with_reducible rename (∃ _, _) ∧ _ => po
        obtain ⟨e1, e2, e3⟩ := po
        exact ⟨_, _, mF, hret _ _ _ _ _ _ (Fr.back FG mF) (News.back FG mN) (keep_back G mF) mK (.inr ⟨by assumption, us, sus, .inl ⟨t, i0, ⟨i, ht, by assumption, hlt⟩, hi0, hp0, Tup.back e1 G ws.F ws.N (fun a ha => by
          rcases List.mem_cons.mp ha with rfl | ha
          · exact ⟨_, .tail _ (.tail _ (.tail _ (.tail _ (.head _))))⟩
          rcases List.mem_cons.mp ha with rfl | ha
          · exact ⟨_, .tail _ (.tail _ (.tail _ (.tail _ (.tail _ (.head _)))))⟩
          rcases List.mem_cons.mp ha with rfl | ha
          · exact ⟨_, .tail _ (.tail _ (.tail _ (.tail _ (.tail _ (.tail _ (.head _))))))⟩
          rcases List.mem_cons.mp ha with rfl | ha
          · exact ⟨_, .tail _ (.tail _ (.tail _ (.tail _ (.tail _ (.tail _ (.tail _ (.head _)))))))⟩
          cases ha), e2, AtN.back e3 G ws.F ws.N (fun a ha => by
          rcases List.mem_cons.mp ha with rfl | ha
          · exact ⟨_, .tail _ (.tail _ (.tail _ (.tail _ (.head _))))⟩
          rcases List.mem_cons.mp ha with rfl | ha
          · exact ⟨_, .tail _ (.tail _ (.tail _ (.tail _ (.tail _ (.head _)))))⟩
          rcases List.mem_cons.mp ha with rfl | ha
          · exact ⟨_, .tail _ (.tail _ (.tail _ (.tail _ (.tail _ (.tail _ (.head _))))))⟩
          rcases List.mem_cons.mp ha with rfl | ha
          · exact ⟨_, .tail _ (.tail _ (.tail _ (.tail _ (.tail _ (.tail _ (.tail _ (.head _)))))))⟩
          cases ha)⟩⟩)⟩
      · with_reducible rename Fr _ _ _ _ => mF
        with_reducible rename News _ _ _ _ => mN
        with_reducible rename gtP _ _ _ _ = false => hg
        exact ⟨_, _, _, _, rfl, mF, (fun p hp => mN p (.tail _ (sub_dup1 p hp))), hne, fun z hz => if_neg hz, rfl, fun j t' hj ht' => by
          rcases Nat.lt_or_ge j i with h1 | h1
          · exact hlt j t' h1 ht'
          · have e : j = i := by omega
            rw [e, ht] at ht'
            rw [← Option.some.inj ht']; exact hg⟩
    · unfold Hold
      rintro u2 _ h2 tk2 ⟨rfl, hlt⟩ F3 N3
      k_steps
      k_extra "m_end"
      with_reducible rename Fr _ _ _ _ => mF
      with_reducible rename News _ _ _ _ => mN
      with_reducible rename KFo _ _ _ _ _ _ => mK
      rename Was _ _ _ _ _ => ws
      with_reducible rename (∃ _, _) ∧ _ => po
      obtain ⟨e1, e2, e3⟩ := po
      exact ⟨_, _, mF, hret _ _ _ _ _ _ (Fr.back FG mF) (News.back FG (fun p hp => mN p (List.mem_append_left _ hp))) (keep_back G mF) mK (.inr ⟨by assumption, us, sus, .inr ⟨fun t ht => by
          obtain ⟨j, hj, e⟩ := List.mem_iff_getElem.mp ht
          exact hlt j t (by rw [List.length_map]; exact hj) (by rw [List.getElem?_eq_getElem hj, e]), Tup.back e1 G ws.F ws.N (fun a ha => by
          rcases List.mem_cons.mp ha with rfl | ha
          · exact ⟨_, .tail _ (.head _)⟩
          rcases List.mem_cons.mp ha with rfl | ha
          · exact ⟨_, .tail _ (.tail _ (.head _))⟩
          rcases List.mem_cons.mp ha with rfl | ha
          · exact ⟨_, .tail _ (.tail _ (.tail _ (.head _)))⟩
          rcases List.mem_cons.mp ha with rfl | ha
          · exact ⟨_, .tail _ (.tail _ (.tail _ (.tail _ (.head _))))⟩
          cases ha), e2, e3⟩⟩)⟩

theorem w_DC10a : True := by
  k_with_none
  (k_with "eval Name" => (k_here; k_dflt (refine' nameX_L (by k_asm) (by rfl) ?_ (by rfl) (by rfl); k_whole)))
  (k_with "cj" => (first | assumption | exact And.left (by assumption) | exact And.left (And.right (by assumption)) | exact And.right (by assumption) | exact And.left (And.right (And.right (by assumption))) | exact And.right (And.right (by assumption)) | exact And.left (And.right (And.right (And.right (by assumption)))) | exact And.right (And.right (And.right (by assumption))) | exact And.left (And.right (And.right (And.right (And.right (by assumption))))) | exact And.right (And.right (And.right (And.right (by assumption)))) | exact And.left (And.right (And.right (And.right (And.right (And.right (by assumption)))))) | exact And.right (And.right (And.right (And.right (And.right (by assumption))))) | exact And.left (And.right (And.right (And.right (And.right (And.right (And.right (by assumption))))))) | exact And.right (And.right (And.right (And.right (And.right (And.right (by assumption)))))) | exact And.left (And.right (And.right (And.right (And.right (And.right (And.right (And.right (by assumption)))))))) | exact And.right (And.right (And.right (And.right (And.right (And.right (And.right (by assumption))))))) | exact And.left (And.right (And.right (And.right (And.right (And.right (And.right (And.right (And.right (by assumption))))))))) | exact And.right (And.right (And.right (And.right (And.right (And.right (And.right (And.right (by assumption)))))))) | exact And.left (And.right (And.right (And.right (And.right (And.right (And.right (And.right (And.right (And.right (by assumption)))))))))) | exact And.right (And.right (And.right (And.right (And.right (And.right (And.right (And.right (And.right (by assumption))))))))) | exact And.left (And.right (And.right (And.right (And.right (And.right (And.right (And.right (And.right (And.right (And.right (by assumption))))))))))) | exact And.right (And.right (And.right (And.right (And.right (And.right (And.right (And.right (And.right (And.right (by assumption)))))))))) | exact And.left (And.right (And.right (And.right (And.right (And.right (And.right (And.right (And.right (And.right (And.right (And.right (by assumption)))))))))))) | exact And.right (And.right (And.right (And.right (And.right (And.right (And.right (And.right (And.right (And.right (And.right (by assumption))))))))))) | exact And.left (And.right (And.right (And.right (And.right (And.right (And.right (And.right (And.right (And.right (And.right (And.right (And.right (by assumption))))))))))))) | exact And.right (And.right (And.right (And.right (And.right (And.right (And.right (And.right (And.right (And.right (And.right (And.right (by assumption)))))))))))) | exact And.left (And.right (And.right (And.right (And.right (And.right (And.right (And.right (And.right (And.right (And.right (And.right (And.right (And.right (by assumption)))))))))))))) | exact And.right (And.right (And.right (And.right (And.right (And.right (And.right (And.right (And.right (And.right (And.right (And.right (And.right (by assumption)))))))))))))))
  (k_with "cj2" => (first | k_extra "cj" | exact Nat.lt_succ_of_lt (by k_extra "cj") | exact Nat.lt_succ_of_lt (Nat.lt_succ_of_lt (by k_extra "cj")) | exact Nat.lt_succ_self _))
  (k_with "om" => (first | (with_reducible assumption) | (with_reducible exact Nat.ne_of_gt (by k_extra "cj")) | (with_reducible exact Nat.ne_of_lt (by k_extra "cj")) | (with_reducible k_extra "cj2") | (with_reducible exact Nat.ne_of_lt (by k_extra "cj2")) | (with_reducible exact Nat.ne_of_gt (by k_extra "cj2")) | (with_reducible exact Ne.symm (by k_extra "cj")) | omega))
  (k_with "k_ne" => (refine neN ?_; (try dsimp only); k_extra "om"))
  trivial
theorem m_place_ofZ {w : World} {I : Ids} {st : St} {atv : Value} {b : Bytes} {t : Tok} {z : Int} (hz : placeOf st.cs b = z) :
    MR w I 103 6 60 [.ref I.x, .bytes b t] st atv (fun _ => True) (fun _ v _ => ∃ t', v = .int z t') := hz ▸ m_place_of
theorem m_last_placeZ {w : World} {I : Ids} {st : St} {atv : Value} {z : Int} (hz : lastPlace st = z) :
    MR w I 190 3 30 [.ref I.x] st atv (fun _ => True) (fun _ v _ => ∃ t', v = .int z t') := hz ▸ m_last_place

theorem w_DC10 : True := by
  k_with_none
  (k_with "eval Name" => (k_here; k_dflt (refine' nameX_L (by k_asm) (by rfl) ?_ (by rfl) (by rfl); k_whole)))
  (k_with "cj" => (first | assumption | exact And.left (by assumption) | exact And.left (And.right (by assumption)) | exact And.right (by assumption) | exact And.left (And.right (And.right (by assumption))) | exact And.right (And.right (by assumption)) | exact And.left (And.right (And.right (And.right (by assumption)))) | exact And.right (And.right (And.right (by assumption))) | exact And.left (And.right (And.right (And.right (And.right (by assumption))))) | exact And.right (And.right (And.right (And.right (by assumption)))) | exact And.left (And.right (And.right (And.right (And.right (And.right (by assumption)))))) | exact And.right (And.right (And.right (And.right (And.right (by assumption))))) | exact And.left (And.right (And.right (And.right (And.right (And.right (And.right (by assumption))))))) | exact And.right (And.right (And.right (And.right (And.right (And.right (by assumption)))))) | exact And.left (And.right (And.right (And.right (And.right (And.right (And.right (And.right (by assumption)))))))) | exact And.right (And.right (And.right (And.right (And.right (And.right (And.right (by assumption))))))) | exact And.left (And.right (And.right (And.right (And.right (And.right (And.right (And.right (And.right (by assumption))))))))) | exact And.right (And.right (And.right (And.right (And.right (And.right (And.right (And.right (by assumption)))))))) | exact And.left (And.right (And.right (And.right (And.right (And.right (And.right (And.right (And.right (And.right (by assumption)))))))))) | exact And.right (And.right (And.right (And.right (And.right (And.right (And.right (And.right (And.right (by assumption))))))))) | exact And.left (And.right (And.right (And.right (And.right (And.right (And.right (And.right (And.right (And.right (And.right (by assumption))))))))))) | exact And.right (And.right (And.right (And.right (And.right (And.right (And.right (And.right (And.right (And.right (by assumption)))))))))) | exact And.left (And.right (And.right (And.right (And.right (And.right (And.right (And.right (And.right (And.right (And.right (And.right (by assumption)))))))))))) | exact And.right (And.right (And.right (And.right (And.right (And.right (And.right (And.right (And.right (And.right (And.right (by assumption))))))))))) | exact And.left (And.right (And.right (And.right (And.right (And.right (And.right (And.right (And.right (And.right (And.right (And.right (And.right (by assumption))))))))))))) | exact And.right (And.right (And.right (And.right (And.right (And.right (And.right (And.right (And.right (And.right (And.right (And.right (by assumption)))))))))))) | exact And.left (And.right (And.right (And.right (And.right (And.right (And.right (And.right (And.right (And.right (And.right (And.right (And.right (And.right (by assumption)))))))))))))) | exact And.right (And.right (And.right (And.right (And.right (And.right (And.right (And.right (And.right (And.right (And.right (And.right (And.right (by assumption)))))))))))))))
  (k_with "cj2" => (first | k_extra "cj" | exact Nat.lt_succ_of_lt (by k_extra "cj") | exact Nat.lt_succ_of_lt (Nat.lt_succ_of_lt (by k_extra "cj")) | exact Nat.lt_succ_self _))
  (k_with "om" => (first | (with_reducible assumption) | (with_reducible exact Nat.ne_of_gt (by k_extra "cj")) | (with_reducible exact Nat.ne_of_lt (by k_extra "cj")) | (with_reducible k_extra "cj2") | (with_reducible exact Nat.ne_of_lt (by k_extra "cj2")) | (with_reducible exact Nat.ne_of_gt (by k_extra "cj2")) | (with_reducible exact Ne.symm (by k_extra "cj")) | omega))
  (k_with "k_ne" => (refine neN ?_; (try dsimp only); k_extra "om"))
  trivial
theorem w_DC10_0 : True := by
  (k_with "m_enter" => (((have _ : PySem.Challenge.rw_pb0243_02 = PySem.Challenge.rw_pb0243_02 → hd02.heap_39 = hd02.heap_39 := by k_fill; exact fun _ => rfl); k_dflt (refine' enterM (binds := by k_extra "binds") (by k_asm) (by k_asm) (by k_asm) (by k_asm) (by k_asm) (by exact rfl) (by exact rfl) (by assumption) (by k_is) (by k_is) (by ktr_room) (by first | exact BindsTo.of_eq rfl | (refine' kp_binds (by k_in) (by exact fun _ => rfl))) (by exact locs rfl) ?_ (by exact rfl) (by exact rfl) (by exact rfl) (by decide); k_whole; intro _ _ _ _ _ _ _ _ _ _; (try dsimp only [List.reverse_cons, List.reverse_nil, List.nil_append, List.cons_append, List.length_cons, List.length_nil]); (try k_fold)))))
  (k_with "m_end" => ((iterate 4 (first | (k_unfold; (try dsimp only)) | dsimp only | skip))))
  (k_with "call builtin:len" => ((k_here; (with_reducible show wpAny _ _ (call (Value.builtin "len") [Value.ref _]) _ _ _); (refine' m_len (by k_asm) (by k_mem) (by omega) ?_))))
  (k_with "subscriptTail" => ((k_here; (with_reducible show wpAny _ _ (subscriptTail _ _ (Value.ref _) (Value.int (Nat.cast _) _)) _ _ _); (refine' m_item (by k_asm) (by k_mem) (by assumption) (by omega) ?_))))
  (k_with "pyIter ref" => ((k_here; (rename LoopInv _ => hJ); (rename Fr _ _ _ _ => yF); (rename News _ _ _ _ => yN); (rename IsRange _ _ _ _ _ _ _ _ => rgX); (with_unfolding_all refine' loop_rangeM hJ (by rfl) (by rfl) rgX rfl yF yN ?_ ?_ ?_ ?_))))
  (k_with "TurnPost" => ((dsimp only [TurnPost])))
  (k_with "call ref" => ((k_here; (with_reducible show wpAny _ _ (call (Value.ref 89) [Value.ref _, Value.bytes _ _, Value.int _ _]) _ _ _); k_dflt (refine' MR.use (m_worth ?_ ?_) (by k_asm) (by k_asm) (by k_asm) (by k_asm) (by k_asm) (by first | exact rfl | assumption) (by assumption) (by assumption) (by k_mem) (by k_mem) (by k_mem) (by k_mem) (by ktr_room) (by ktr_units) True.intro ?_; (first | decide | assumption); assumption); rintro _ _ _ _ _ _ ⟨_, rfl⟩; (try k_sweep); (try k_fold))))
  (k_with "exec For Name Call cons nil" => ((refine hold_stop (by assumption) ?_)))
  (k_with "exec For Name Name cons nil" => ((refine hold_stop (by assumption) ?_)))
  (k_with "k_all" => (assumption))
  (k_with "call builtin:list.append" => ((k_here; (try dsimp only [List.nil_append, List.cons_append]); (with_reducible show wpAny _ _ (call (Value.builtin "list.append") [Value.ref _, _]) _ _ _); (refine' m_append (by k_asm) (by k_asm) (by k_upd) (by omega) ?_); intro _ _ _; (try k_sweep))))
  (k_with "call builtin:list.pop" => ((k_here; (try dsimp only [List.nil_append, List.cons_append]); (with_reducible show wpAny _ _ (call (Value.builtin "list.pop") [Value.ref _, Value.int (Nat.cast _) _]) _ _ _); (refine' m_popAt (by k_asm) (by k_asm) (by k_upd) (by assumption) (by omega) ?_); intro _ _ _; (try k_sweep))))
  (k_with "eval ListComp" => ((k_here; (rename CompInv _ => hJ); k_dflt (first | (refine PyProof.Rows.LCg.ListComp_U (F₀ := by k_asm) (by with_unfolding_all rfl) (by decide) (by rfl) (by decide) (by rfl) ?_) | (refine PyProof.Rows.LCt.ListComp_T (F₀ := by k_asm) (by with_unfolding_all rfl) (by decide) (by rfl) (by decide) (by rfl) ?_)))))
  (k_with "exec Assign cons ListComp" => ((k_here; (rename CompInv _ => hJ); k_dflt (first | (refine PyProof.Rows.LCg.Assign_ListComp_U (F₀ := by k_asm) (by rfl) (by with_unfolding_all rfl) (by with_unfolding_all rfl) (by decide) (by rfl) (by decide) (by rfl) (by rfl) (by rfl) ?_) | (refine PyProof.Rows.LCt.Assign_ListComp_T (F₀ := by k_asm) (by rfl) (by with_unfolding_all rfl) (by with_unfolding_all rfl) (by decide) (by rfl) (by decide) (by rfl) (by rfl) (by rfl) ?_)))))
  (k_with "CompSrc" => ((k_here; (rename CompInv _ => hJ); k_dflt (first | (refine' comp_listM hJ (by rfl) (by k_asm) (by k_asm) (by k_mem) ?_ ?_ ?_ ?_) | (refine' comp_rangeM hJ (by rfl) (by k_asm) (by k_asm) (by assumption) (by rfl) ?_ ?_ ?_ ?_)))))
  (k_with "CompSrcT" => ((k_here; (rename CompInv _ => hJ); k_dflt (refine' comp_listTM hJ (by rfl) (by k_asm) (by k_asm) (by k_mem) ?_ ?_ ?_ ?_))))
  (k_with "call builtin:list.index" => ((k_here; (try dsimp only [List.nil_append, List.cons_append]); (with_reducible show wpAny _ _ (call (Value.builtin "list.index") [Value.ref _, Value.int _ _]) _ _ _); (refine' m_index (by is_list) (by assumption) (by omega) (by first | assumption | exact any_mem (by assumption)) ?_))))
  (k_with "m_enterC" => (((have _ : PySem.Challenge.rw_pb0243_02 = PySem.Challenge.rw_pb0243_02 → hd02.heap_39 = hd02.heap_39 := by k_fill; exact fun _ => rfl); k_dflt (refine' enterC (binds := by k_extra "binds") (by k_asm) (by k_asm) (by k_asm) (by k_asm) (by k_asm) (by exact rfl) (by exact rfl) (by assumption) (by k_is) (by k_is) (by ktr_room) (by exact BindsTo.of_eq rfl) (by exact rfl) (by decide +kernel) ?_ (by exact rfl) (by exact rfl) (by exact rfl); k_whole; intro _ _ _ _ _ _ _ yN yY _ _ _ _ yl1; (try k_lt yl1); k_cells yY; (try simp only [List.cons_append, List.nil_append] at yN); (with_reducible ktr_call "hid" (News _ _ _ _)); (try (revert yl1; intro _)); (try dsimp only); (try k_fold)))))
  (k_with "exec For Name Name cons nil" => ((refine hold_stop (by assumption) ?_)))
  (k_with "pyIter ref" => ((k_here; (rename LoopInvY _ _ _ => hJ); (rename Fr _ _ _ _ => yF); (rename News _ _ _ _ => yN); (with_unfolding_all refine' loop_listY hJ (by rfl) (by rfl) rfl yF yN ?_ ?_ ?_ ?_))))
  (k_with "binaryOp Add bytes bytes" => ((k_here; (with_reducible show wpAny _ _ (binaryOp Operator.Add (Value.bytes _ _) (Value.bytes _ _)) _ _ _); (refine KBy.add_bytes (by first | with_unfolding_all exact Nat.le_trans (Nat.add_le_add (by assumption) (Nat.le_refl _)) (by decide)) ?_); intro _ _)))
  (k_with "compareOp NotEq ref ref" => ((k_here; (with_reducible show wpAny _ _ (compareOp CmpOp.NotEq (Value.ref _) (Value.ref _)) _ _ _); (with_reducible rename News _ _ _ _ => nN'); k_dflt (refine' m_ne_nil2 nN' (by k_mem) (by k_mem) (by ke_room) ?_))))
  (k_with "k_off" => (((try dsimp only [List.take, OffAll]); (repeat' (first | exact True.intro | refine And.intro ?_ ?_ | (refine off4 ?_ ?_ ?_ ?_ <;> k_extra "om"))))))
  (k_with "call ref" => ((k_here; (show wpAny _ _ (call (Value.ref 190) [Value.ref _]) _ _ _); k_dflt (refine' MR.use (m_last_placeZ ?_) (by k_asm) (by k_asm) (by k_asm) (by k_asm) (by k_asm) (by first | exact rfl | assumption) (by assumption) (by assumption) (by k_mem) (by k_mem) (by k_mem) (by k_mem) (by ktr_room) (by ktr_units) True.intro ?_; rotate_left; (first | assumption | exact (by assumption : (_ == _) = true → lastPlace _ = _) (by assumption))); rintro _ _ _ _ _ _ ⟨_, rfl⟩; (try (rename FxNext _ _ _ => yfxn; have yfxG := yfxn.fx; clear yfxn; (with_reducible ktr_call "hid" (Fx _ _ _)))); (try k_sweep); (try k_fold))))
  (k_with "call ref" => ((k_here; (with_reducible show wpAny _ _ (call (Value.ref 103) [Value.ref _, Value.bytes _ _]) _ _ _); k_dflt (refine' MR.use (m_place_ofZ ?_) (by k_asm) (by k_asm) (by k_asm) (by k_asm) (by k_asm) (by first | exact rfl | assumption) (by assumption) (by assumption) (by k_mem) (by k_mem) (by k_mem) (by k_mem) (by ktr_room) (by ktr_units) True.intro ?_; rotate_left; (first | assumption | exact (by assumption : (_ == _) = false → placeOf _ _ = _) (by assumption))); rintro _ _ _ _ _ _ ⟨_, rfl⟩; (try (rename FxNext _ _ _ => yfxn; have yfxG := yfxn.fx; clear yfxn; (with_reducible ktr_call "hid" (Fx _ _ _)))); (try k_sweep); (try k_fold))))
  (k_with "call ref" => ((k_here; (with_reducible show wpAny _ _ (call (Value.ref 164) [Value.ref _, Value.int _ _]) _ _ _); (rename RestK _ => hRK); k_dflt (refine' MC.useK hRK (m_drop ?_) (by k_asm) (by k_asm) (by k_asm) (by k_asm) (by k_asm) (by first | exact rfl | assumption) (by assumption) (by assumption) (by k_mem) (by k_mem) (by k_mem) (by k_mem) (by ktr_room) (by ktr_units) True.intro (by k_extra "k_off") ?_; assumption); rintro _ _ _ _ _ _ _ yN' _ _ ⟨rfl, rfl, rfl⟩; (try simp only [List.append_nil, List.take] at yN'); (with_reducible ktr_call "hid" (News _ _ _ _)); (try k_sweep))))
  trivial
noncomputable def delPlace (I : Ids) (st : St) (key : Bytes) : Int := if I.acc == Str.ofString "sequential" then lastPlace st else placeOf st.cs key
theorem m_delete {w : World} {I : Ids} {st : St} {atv : Value} {key : Bytes} {tk0 : Tok} (hmode : I.mode = Str.ofString "i-o") {z : Int} (hz : delPlace I st key = z) (hzz : z = -1 ∨ ∃ i : Nat, z = (i : Int) ∧ i < st.cs.length) :
    MC w I 205 9 90 [.ref I.x, .bytes key tk0] st atv (fun _ => True) (fun h v st' atv' h' => atv' = atv ∧ (z = -1 → st' = st ∧ ∃ t, v = .str (if I.acc == Str.ofString "sequential" then Str.ofString "43" else Str.ofString "23") t) ∧ ∀ i : Nat, z = (i : Int) → st' = { st with cs := st.cs.eraseIdx i, rows := st.rows.eraseIdx i, last := -1 } ∧ ∃ t, v = .str (Str.ofString "00") t) := by
  constructor
  intro p loose mean mg mb dp un gd cn cs a ccd cl outer A₀ base h₀ L m led s Q E B F X N T hk hd hu KF pre hret
  obtain ⟨kt, tm, ta, tn, twh, tl, hi, nc, ns, rfl, ok, fx⟩ := id KF
  (k_with "binds" => exact ([(Str.ofString "self", .ref I.x), (Str.ofString "key", .bytes key tk0)]))
  k_extra "m_enter"
  rename_i g L₁ h₁ FG F₁ N₁ B₁ X₁ T₁ G
  have fxg := fx.keeps (gsub_hide G)
  have n1 := ok.n1
  have n4 := ok.n4
  have n5 := ok.n5
  have hR : RestK 0 := ⟨⟩
  have hN : FxNext g I { st with last := -1 } := ⟨Fx.same fxg rfl rfl fxg.wh⟩
  cases hseq : (I.acc == Str.ofString "sequential")
  all_goals
    rw [hseq] at hret
    unfold delPlace at hz
    rw [hseq] at hz
    simp only [if_true, if_false, Bool.false_eq_true] at hz
    rcases hzz with rfl | ⟨i, rfl, hi'⟩
  all_goals k_steps
  all_goals try (with_reducible rename (I.mode != _) = true => hc; rw [hmode] at hc; exact absurd hc (by decide))
  all_goals
    k_extra "m_end"
    with_reducible rename Fr _ _ _ _ => mF
    with_reducible rename News _ _ _ _ => mN
    first
    | exact ⟨_, _, mF, hret _ st _ _ _ _ (Fr.back FG mF) (News.back FG mN) (keep_back G mF) ⟨_, _, _, _, _, _, _, _, _, rfl, ok, fx.keeps (gsub_hide2 (keep_back G mF))⟩ ⟨rfl, fun _ => ⟨rfl, _, rfl⟩, fun i e => absurd e (by k_extra "om")⟩⟩
    | (exact ⟨_, _, mF, hret _ _ _ _ _ _ (Fr.back FG mF) (News.back FG mN) (keep_back G mF) (by assumption) ⟨rfl, fun e => absurd e (by k_extra "om"), fun j e => by
         have e2 : j = i := by omega
         rw [e2]; exact ⟨rfl, _, rfl⟩⟩⟩)

theorem w_DC10b : True := by
  k_with_none
  (k_with "eval Name" => (k_here; k_dflt (refine' nameX_L (by k_asm) (by rfl) ?_ (by rfl) (by rfl); k_whole)))
  (k_with "cj" => (first | assumption | exact And.left (by assumption) | exact And.left (And.right (by assumption)) | exact And.right (by assumption) | exact And.left (And.right (And.right (by assumption))) | exact And.right (And.right (by assumption)) | exact And.left (And.right (And.right (And.right (by assumption)))) | exact And.right (And.right (And.right (by assumption))) | exact And.left (And.right (And.right (And.right (And.right (by assumption))))) | exact And.right (And.right (And.right (And.right (by assumption)))) | exact And.left (And.right (And.right (And.right (And.right (And.right (by assumption)))))) | exact And.right (And.right (And.right (And.right (And.right (by assumption))))) | exact And.left (And.right (And.right (And.right (And.right (And.right (And.right (by assumption))))))) | exact And.right (And.right (And.right (And.right (And.right (And.right (by assumption)))))) | exact And.left (And.right (And.right (And.right (And.right (And.right (And.right (And.right (by assumption)))))))) | exact And.right (And.right (And.right (And.right (And.right (And.right (And.right (by assumption))))))) | exact And.left (And.right (And.right (And.right (And.right (And.right (And.right (And.right (And.right (by assumption))))))))) | exact And.right (And.right (And.right (And.right (And.right (And.right (And.right (And.right (by assumption)))))))) | exact And.left (And.right (And.right (And.right (And.right (And.right (And.right (And.right (And.right (And.right (by assumption)))))))))) | exact And.right (And.right (And.right (And.right (And.right (And.right (And.right (And.right (And.right (by assumption))))))))) | exact And.left (And.right (And.right (And.right (And.right (And.right (And.right (And.right (And.right (And.right (And.right (by assumption))))))))))) | exact And.right (And.right (And.right (And.right (And.right (And.right (And.right (And.right (And.right (And.right (by assumption)))))))))) | exact And.left (And.right (And.right (And.right (And.right (And.right (And.right (And.right (And.right (And.right (And.right (And.right (by assumption)))))))))))) | exact And.right (And.right (And.right (And.right (And.right (And.right (And.right (And.right (And.right (And.right (And.right (by assumption))))))))))) | exact And.left (And.right (And.right (And.right (And.right (And.right (And.right (And.right (And.right (And.right (And.right (And.right (And.right (by assumption))))))))))))) | exact And.right (And.right (And.right (And.right (And.right (And.right (And.right (And.right (And.right (And.right (And.right (And.right (by assumption)))))))))))) | exact And.left (And.right (And.right (And.right (And.right (And.right (And.right (And.right (And.right (And.right (And.right (And.right (And.right (And.right (by assumption)))))))))))))) | exact And.right (And.right (And.right (And.right (And.right (And.right (And.right (And.right (And.right (And.right (And.right (And.right (And.right (by assumption)))))))))))))))
  (k_with "cj2" => (first | k_extra "cj" | exact Nat.lt_succ_of_lt (by k_extra "cj") | exact Nat.lt_succ_of_lt (Nat.lt_succ_of_lt (by k_extra "cj")) | exact Nat.lt_succ_self _))
  (k_with "om" => (first | (with_reducible assumption) | (with_reducible exact Nat.ne_of_gt (by k_extra "cj")) | (with_reducible exact Nat.ne_of_lt (by k_extra "cj")) | (with_reducible k_extra "cj2") | (with_reducible exact Nat.ne_of_lt (by k_extra "cj2")) | (with_reducible exact Nat.ne_of_gt (by k_extra "cj2")) | (with_reducible exact Ne.symm (by k_extra "cj")) | omega))
  (k_with "k_ne" => (refine neN ?_; (try dsimp only); k_extra "om"))
  trivial
theorem w_DC10b_0 : True := by
  (k_with "m_enter" => (((have _ : PySem.Challenge.rw_pb0243_02 = PySem.Challenge.rw_pb0243_02 → hd02.heap_39 = hd02.heap_39 := by k_fill; exact fun _ => rfl); k_dflt (refine' enterM (binds := by k_extra "binds") (by k_asm) (by k_asm) (by k_asm) (by k_asm) (by k_asm) (by exact rfl) (by exact rfl) (by assumption) (by k_is) (by k_is) (by ktr_room) (by first | exact BindsTo.of_eq rfl | (refine' kp_binds (by k_in) (by exact fun _ => rfl))) (by exact locs rfl) ?_ (by exact rfl) (by exact rfl) (by exact rfl) (by decide); k_whole; intro _ _ _ _ _ _ _ _ _ _; (try dsimp only [List.reverse_cons, List.reverse_nil, List.nil_append, List.cons_append, List.length_cons, List.length_nil]); (try k_fold)))))
  (k_with "m_end" => ((iterate 4 (first | (k_unfold; (try dsimp only)) | dsimp only | skip))))
  (k_with "call builtin:len" => ((k_here; (with_reducible show wpAny _ _ (call (Value.builtin "len") [Value.ref _]) _ _ _); (refine' m_len (by k_asm) (by k_mem) (by omega) ?_))))
  (k_with "subscriptTail" => ((k_here; (with_reducible show wpAny _ _ (subscriptTail _ _ (Value.ref _) (Value.int (Nat.cast _) _)) _ _ _); (refine' m_item (by k_asm) (by k_mem) (by assumption) (by omega) ?_))))
  (k_with "pyIter ref" => ((k_here; (rename LoopInv _ => hJ); (rename Fr _ _ _ _ => yF); (rename News _ _ _ _ => yN); (rename IsRange _ _ _ _ _ _ _ _ => rgX); (with_unfolding_all refine' loop_rangeM hJ (by rfl) (by rfl) rgX rfl yF yN ?_ ?_ ?_ ?_))))
  (k_with "TurnPost" => ((dsimp only [TurnPost])))
  (k_with "call ref" => ((k_here; (with_reducible show wpAny _ _ (call (Value.ref 89) [Value.ref _, Value.bytes _ _, Value.int _ _]) _ _ _); k_dflt (refine' MR.use (m_worth ?_ ?_) (by k_asm) (by k_asm) (by k_asm) (by k_asm) (by k_asm) (by first | exact rfl | assumption) (by assumption) (by assumption) (by k_mem) (by k_mem) (by k_mem) (by k_mem) (by ktr_room) (by ktr_units) True.intro ?_; (first | decide | assumption); assumption); rintro _ _ _ _ _ _ ⟨_, rfl⟩; (try k_sweep); (try k_fold))))
  (k_with "exec For Name Call cons nil" => ((refine hold_stop (by assumption) ?_)))
  (k_with "exec For Name Name cons nil" => ((refine hold_stop (by assumption) ?_)))
  (k_with "k_all" => (assumption))
  (k_with "call builtin:list.append" => ((k_here; (try dsimp only [List.nil_append, List.cons_append]); (with_reducible show wpAny _ _ (call (Value.builtin "list.append") [Value.ref _, _]) _ _ _); (refine' m_append (by k_asm) (by k_asm) (by k_upd) (by omega) ?_); intro _ _ _; (try k_sweep))))
  (k_with "call builtin:list.pop" => ((k_here; (try dsimp only [List.nil_append, List.cons_append]); (with_reducible show wpAny _ _ (call (Value.builtin "list.pop") [Value.ref _, Value.int (Nat.cast _) _]) _ _ _); (refine' m_popAt (by k_asm) (by k_asm) (by k_upd) (by assumption) (by omega) ?_); intro _ _ _; (try k_sweep))))
  (k_with "eval ListComp" => ((k_here; (rename CompInv _ => hJ); k_dflt (first | (refine PyProof.Rows.LCg.ListComp_U (F₀ := by k_asm) (by with_unfolding_all rfl) (by decide) (by rfl) (by decide) (by rfl) ?_) | (refine PyProof.Rows.LCt.ListComp_T (F₀ := by k_asm) (by with_unfolding_all rfl) (by decide) (by rfl) (by decide) (by rfl) ?_)))))
  (k_with "exec Assign cons ListComp" => ((k_here; (rename CompInv _ => hJ); k_dflt (first | (refine PyProof.Rows.LCg.Assign_ListComp_U (F₀ := by k_asm) (by rfl) (by with_unfolding_all rfl) (by with_unfolding_all rfl) (by decide) (by rfl) (by decide) (by rfl) (by rfl) (by rfl) ?_) | (refine PyProof.Rows.LCt.Assign_ListComp_T (F₀ := by k_asm) (by rfl) (by with_unfolding_all rfl) (by with_unfolding_all rfl) (by decide) (by rfl) (by decide) (by rfl) (by rfl) (by rfl) ?_)))))
  (k_with "CompSrc" => ((k_here; (rename CompInv _ => hJ); k_dflt (first | (refine' comp_listM hJ (by rfl) (by k_asm) (by k_asm) (by k_mem) ?_ ?_ ?_ ?_) | (refine' comp_rangeM hJ (by rfl) (by k_asm) (by k_asm) (by assumption) (by rfl) ?_ ?_ ?_ ?_)))))
  (k_with "CompSrcT" => ((k_here; (rename CompInv _ => hJ); k_dflt (refine' comp_listTM hJ (by rfl) (by k_asm) (by k_asm) (by k_mem) ?_ ?_ ?_ ?_))))
  (k_with "call builtin:list.index" => ((k_here; (try dsimp only [List.nil_append, List.cons_append]); (with_reducible show wpAny _ _ (call (Value.builtin "list.index") [Value.ref _, Value.int _ _]) _ _ _); (refine' m_index (by is_list) (by assumption) (by omega) (by first | assumption | exact any_mem (by assumption)) ?_))))
  (k_with "m_enterC" => (((have _ : PySem.Challenge.rw_pb0243_02 = PySem.Challenge.rw_pb0243_02 → hd02.heap_39 = hd02.heap_39 := by k_fill; exact fun _ => rfl); k_dflt (refine' enterC (binds := by k_extra "binds") (by k_asm) (by k_asm) (by k_asm) (by k_asm) (by k_asm) (by exact rfl) (by exact rfl) (by assumption) (by k_is) (by k_is) (by ktr_room) (by exact BindsTo.of_eq rfl) (by exact rfl) (by decide +kernel) ?_ (by exact rfl) (by exact rfl) (by exact rfl); k_whole; intro _ _ _ _ _ _ _ yN yY _ _ _ _ yl1; (try k_lt yl1); k_cells yY; (try simp only [List.cons_append, List.nil_append] at yN); (with_reducible ktr_call "hid" (News _ _ _ _)); (try (revert yl1; intro _)); (try dsimp only); (try k_fold)))))
  (k_with "exec For Name Name cons nil" => ((refine hold_stop (by assumption) ?_)))
  (k_with "pyIter ref" => ((k_here; (rename LoopInvY _ _ _ => hJ); (rename Fr _ _ _ _ => yF); (rename News _ _ _ _ => yN); (with_unfolding_all refine' loop_listY hJ (by rfl) (by rfl) rfl yF yN ?_ ?_ ?_ ?_))))
  (k_with "binaryOp Add bytes bytes" => ((k_here; (with_reducible show wpAny _ _ (binaryOp Operator.Add (Value.bytes _ _) (Value.bytes _ _)) _ _ _); (refine KBy.add_bytes (by first | with_unfolding_all exact Nat.le_trans (Nat.add_le_add (by assumption) (Nat.le_refl _)) (by decide)) ?_); intro _ _)))
  (k_with "compareOp NotEq ref ref" => ((k_here; (with_reducible show wpAny _ _ (compareOp CmpOp.NotEq (Value.ref _) (Value.ref _)) _ _ _); (with_reducible rename News _ _ _ _ => nN'); k_dflt (refine' m_ne_nil2 nN' (by k_mem) (by k_mem) (by ke_room) ?_))))
  (k_with "k_off" => (((try dsimp only [List.take, OffAll]); (repeat' (first | exact True.intro | refine And.intro ?_ ?_ | (refine off4 ?_ ?_ ?_ ?_ <;> k_extra "om"))))))
  (k_with "call ref" => ((k_here; (show wpAny _ _ (call (Value.ref 190) [Value.ref _]) _ _ _); k_dflt (refine' MR.use (m_last_placeZ ?_) (by k_asm) (by k_asm) (by k_asm) (by k_asm) (by k_asm) (by first | exact rfl | assumption) (by assumption) (by assumption) (by k_mem) (by k_mem) (by k_mem) (by k_mem) (by ktr_room) (by ktr_units) True.intro ?_; rotate_left; (first | assumption | exact (by assumption : (_ == _) = true → lastPlace _ = _) (by assumption))); rintro _ _ _ _ _ _ ⟨_, rfl⟩; (try (rename FxNext _ _ _ => yfxn; have yfxG := yfxn.fx; clear yfxn; (with_reducible ktr_call "hid" (Fx _ _ _)))); (try k_sweep); (try k_fold))))
  (k_with "call ref" => ((k_here; (with_reducible show wpAny _ _ (call (Value.ref 103) [Value.ref _, Value.bytes _ _]) _ _ _); k_dflt (refine' MR.use (m_place_ofZ ?_) (by k_asm) (by k_asm) (by k_asm) (by k_asm) (by k_asm) (by first | exact rfl | assumption) (by assumption) (by assumption) (by k_mem) (by k_mem) (by k_mem) (by k_mem) (by ktr_room) (by ktr_units) True.intro ?_; rotate_left; (first | assumption | exact (by assumption : (_ == _) = false → placeOf _ _ = _) (by assumption))); rintro _ _ _ _ _ _ ⟨_, rfl⟩; (try (rename FxNext _ _ _ => yfxn; have yfxG := yfxn.fx; clear yfxn; (with_reducible ktr_call "hid" (Fx _ _ _)))); (try k_sweep); (try k_fold))))
  (k_with "call ref" => ((k_here; (with_reducible show wpAny _ _ (call (Value.ref 164) [Value.ref _, Value.int _ _]) _ _ _); (rename RestK _ => hRK); k_dflt (refine' MC.useK hRK (m_drop ?_) (by k_asm) (by k_asm) (by k_asm) (by k_asm) (by k_asm) (by first | exact rfl | assumption) (by assumption) (by assumption) (by k_mem) (by k_mem) (by k_mem) (by k_mem) (by ktr_room) (by ktr_units) True.intro (by k_extra "k_off") ?_; assumption); rintro _ _ _ _ _ _ _ yN' _ _ ⟨rfl, rfl, rfl⟩; (try simp only [List.append_nil, List.take] at yN'); (with_reducible ktr_call "hid" (News _ _ _ _)); (try k_sweep))))
  trivial
theorem m_delete49 {w : World} {I : Ids} {st : St} {atv : Value} {key : Bytes} {tk0 : Tok} (hmode : I.mode = Str.ofString "input") :
    MC w I 205 9 90 [.ref I.x, .bytes key tk0] st atv (fun _ => True) (fun h v st' atv' h' => atv' = atv ∧ st' = st ∧ ∃ t, v = .str (Str.ofString "49") t) := by
  constructor
  intro p loose mean mg mb dp un gd cn cs a ccd cl outer A₀ base h₀ L m led s Q E B F X N T hk hd hu KF pre hret
  obtain ⟨kt, tm, ta, tn, twh, tl, hi, nc, ns, rfl, ok, fx⟩ := id KF
  (k_with "binds" => exact ([(Str.ofString "self", .ref I.x), (Str.ofString "key", .bytes key tk0)]))
  k_extra "m_enter"
  rename_i g L₁ h₁ FG F₁ N₁ B₁ X₁ T₁ G
  have fxg := fx.keeps (gsub_hide G)
  have n1 := ok.n1
  have n4 := ok.n4
  have n5 := ok.n5
  have hR : RestK 0 := ⟨⟩
  have hm : (I.mode != Str.ofString "i-o") = true := by rw [hmode]; decide
  k_steps
  all_goals try (with_reducible rename (I.mode != _) = false => hc; rw [hm] at hc; cases hc)
  k_extra "m_end"
  with_reducible rename Fr _ _ _ _ => mF
  with_reducible rename News _ _ _ _ => mN
  exact ⟨_, _, mF, hret _ st _ _ _ _ (Fr.back FG mF) (News.back FG mN) (keep_back G mF) ⟨_, _, _, _, _, _, _, _, _, rfl, ok, fx.keeps (gsub_hide2 (keep_back G mF))⟩ ⟨rfl, rfl, _, rfl⟩⟩

theorem w_DC11 : True := by
  k_with_none
  (k_with "eval Name" => (k_here; k_dflt (refine' nameX_L (by k_asm) (by rfl) ?_ (by rfl) (by rfl); k_whole)))
  (k_with "cj" => (first | assumption | exact And.left (by assumption) | exact And.left (And.right (by assumption)) | exact And.right (by assumption) | exact And.left (And.right (And.right (by assumption))) | exact And.right (And.right (by assumption)) | exact And.left (And.right (And.right (And.right (by assumption)))) | exact And.right (And.right (And.right (by assumption))) | exact And.left (And.right (And.right (And.right (And.right (by assumption))))) | exact And.right (And.right (And.right (And.right (by assumption)))) | exact And.left (And.right (And.right (And.right (And.right (And.right (by assumption)))))) | exact And.right (And.right (And.right (And.right (And.right (by assumption))))) | exact And.left (And.right (And.right (And.right (And.right (And.right (And.right (by assumption))))))) | exact And.right (And.right (And.right (And.right (And.right (And.right (by assumption)))))) | exact And.left (And.right (And.right (And.right (And.right (And.right (And.right (And.right (by assumption)))))))) | exact And.right (And.right (And.right (And.right (And.right (And.right (And.right (by assumption))))))) | exact And.left (And.right (And.right (And.right (And.right (And.right (And.right (And.right (And.right (by assumption))))))))) | exact And.right (And.right (And.right (And.right (And.right (And.right (And.right (And.right (by assumption)))))))) | exact And.left (And.right (And.right (And.right (And.right (And.right (And.right (And.right (And.right (And.right (by assumption)))))))))) | exact And.right (And.right (And.right (And.right (And.right (And.right (And.right (And.right (And.right (by assumption))))))))) | exact And.left (And.right (And.right (And.right (And.right (And.right (And.right (And.right (And.right (And.right (And.right (by assumption))))))))))) | exact And.right (And.right (And.right (And.right (And.right (And.right (And.right (And.right (And.right (And.right (by assumption)))))))))) | exact And.left (And.right (And.right (And.right (And.right (And.right (And.right (And.right (And.right (And.right (And.right (And.right (by assumption)))))))))))) | exact And.right (And.right (And.right (And.right (And.right (And.right (And.right (And.right (And.right (And.right (And.right (by assumption))))))))))) | exact And.left (And.right (And.right (And.right (And.right (And.right (And.right (And.right (And.right (And.right (And.right (And.right (And.right (by assumption))))))))))))) | exact And.right (And.right (And.right (And.right (And.right (And.right (And.right (And.right (And.right (And.right (And.right (And.right (by assumption)))))))))))) | exact And.left (And.right (And.right (And.right (And.right (And.right (And.right (And.right (And.right (And.right (And.right (And.right (And.right (And.right (by assumption)))))))))))))) | exact And.right (And.right (And.right (And.right (And.right (And.right (And.right (And.right (And.right (And.right (And.right (And.right (And.right (by assumption)))))))))))))))
  (k_with "cj2" => (first | k_extra "cj" | exact Nat.lt_succ_of_lt (by k_extra "cj") | exact Nat.lt_succ_of_lt (Nat.lt_succ_of_lt (by k_extra "cj")) | exact Nat.lt_succ_self _))
  (k_with "om" => (first | (with_reducible assumption) | (with_reducible exact Nat.ne_of_gt (by k_extra "cj")) | (with_reducible exact Nat.ne_of_lt (by k_extra "cj")) | (with_reducible k_extra "cj2") | (with_reducible exact Nat.ne_of_lt (by k_extra "cj2")) | (with_reducible exact Nat.ne_of_gt (by k_extra "cj2")) | (with_reducible exact Ne.symm (by k_extra "cj")) | omega))
  (k_with "k_ne" => (refine neN ?_; (try dsimp only); k_extra "om"))
  trivial
theorem w_DC11_0 : True := by
  (k_with "m_enter" => (((have _ : PySem.Challenge.rw_pb0243_02 = PySem.Challenge.rw_pb0243_02 → hd02.heap_39 = hd02.heap_39 := by k_fill; exact fun _ => rfl); k_dflt (refine' enterM (binds := by k_extra "binds") (by k_asm) (by k_asm) (by k_asm) (by k_asm) (by k_asm) (by exact rfl) (by exact rfl) (by assumption) (by k_is) (by k_is) (by ktr_room) (by first | exact BindsTo.of_eq rfl | (refine' kp_binds (by k_in) (by exact fun _ => rfl))) (by exact locs rfl) ?_ (by exact rfl) (by exact rfl) (by exact rfl) (by decide); k_whole; intro _ _ _ _ _ _ _ _ _ _; (try dsimp only [List.reverse_cons, List.reverse_nil, List.nil_append, List.cons_append, List.length_cons, List.length_nil]); (try k_fold)))))
  (k_with "m_end" => ((iterate 4 (first | (k_unfold; (try dsimp only)) | dsimp only | skip))))
  (k_with "call builtin:len" => ((k_here; (with_reducible show wpAny _ _ (call (Value.builtin "len") [Value.ref _]) _ _ _); (refine' m_len (by k_asm) (by k_mem) (by omega) ?_))))
  (k_with "subscriptTail" => ((k_here; (with_reducible show wpAny _ _ (subscriptTail _ _ (Value.ref _) (Value.int (Nat.cast _) _)) _ _ _); (refine' m_item (by k_asm) (by k_mem) (by assumption) (by omega) ?_))))
  (k_with "pyIter ref" => ((k_here; (rename LoopInv _ => hJ); (rename Fr _ _ _ _ => yF); (rename News _ _ _ _ => yN); (rename IsRange _ _ _ _ _ _ _ _ => rgX); (with_unfolding_all refine' loop_rangeM hJ (by rfl) (by rfl) rgX rfl yF yN ?_ ?_ ?_ ?_))))
  (k_with "TurnPost" => ((dsimp only [TurnPost])))
  (k_with "call ref" => ((k_here; (with_reducible show wpAny _ _ (call (Value.ref 89) [Value.ref _, Value.bytes _ _, Value.int _ _]) _ _ _); k_dflt (refine' MR.use (m_worth ?_ ?_) (by k_asm) (by k_asm) (by k_asm) (by k_asm) (by k_asm) (by first | exact rfl | assumption) (by assumption) (by assumption) (by k_mem) (by k_mem) (by k_mem) (by k_mem) (by ktr_room) (by ktr_units) True.intro ?_; (first | decide | assumption); assumption); rintro _ _ _ _ _ _ ⟨_, rfl⟩; (try k_sweep); (try k_fold))))
  (k_with "exec For Name Call cons nil" => ((refine hold_stop (by assumption) ?_)))
  (k_with "exec For Name Name cons nil" => ((refine hold_stop (by assumption) ?_)))
  (k_with "k_all" => (assumption))
  (k_with "call builtin:list.append" => ((k_here; (try dsimp only [List.nil_append, List.cons_append]); (with_reducible show wpAny _ _ (call (Value.builtin "list.append") [Value.ref _, _]) _ _ _); (refine' m_append (by k_asm) (by k_asm) (by k_upd) (by omega) ?_); intro _ _ _; (try k_sweep))))
  (k_with "call builtin:list.pop" => ((k_here; (try dsimp only [List.nil_append, List.cons_append]); (with_reducible show wpAny _ _ (call (Value.builtin "list.pop") [Value.ref _, Value.int (Nat.cast _) _]) _ _ _); (refine' m_popAt (by k_asm) (by k_asm) (by k_upd) (by assumption) (by omega) ?_); intro _ _ _; (try k_sweep))))
  (k_with "eval ListComp" => ((k_here; (rename CompInv _ => hJ); k_dflt (first | (refine PyProof.Rows.LCg.ListComp_U (F₀ := by k_asm) (by with_unfolding_all rfl) (by decide) (by rfl) (by decide) (by rfl) ?_) | (refine PyProof.Rows.LCt.ListComp_T (F₀ := by k_asm) (by with_unfolding_all rfl) (by decide) (by rfl) (by decide) (by rfl) ?_)))))
  (k_with "exec Assign cons ListComp" => ((k_here; (rename CompInv _ => hJ); k_dflt (first | (refine PyProof.Rows.LCg.Assign_ListComp_U (F₀ := by k_asm) (by rfl) (by with_unfolding_all rfl) (by with_unfolding_all rfl) (by decide) (by rfl) (by decide) (by rfl) (by rfl) (by rfl) ?_) | (refine PyProof.Rows.LCt.Assign_ListComp_T (F₀ := by k_asm) (by rfl) (by with_unfolding_all rfl) (by with_unfolding_all rfl) (by decide) (by rfl) (by decide) (by rfl) (by rfl) (by rfl) ?_)))))
  (k_with "CompSrc" => ((k_here; (rename CompInv _ => hJ); k_dflt (first | (refine' comp_listM hJ (by rfl) (by k_asm) (by k_asm) (by k_mem) ?_ ?_ ?_ ?_) | (refine' comp_rangeM hJ (by rfl) (by k_asm) (by k_asm) (by assumption) (by rfl) ?_ ?_ ?_ ?_)))))
  (k_with "CompSrcT" => ((k_here; (rename CompInv _ => hJ); k_dflt (refine' comp_listTM hJ (by rfl) (by k_asm) (by k_asm) (by k_mem) ?_ ?_ ?_ ?_))))
  (k_with "call builtin:list.index" => ((k_here; (try dsimp only [List.nil_append, List.cons_append]); (with_reducible show wpAny _ _ (call (Value.builtin "list.index") [Value.ref _, Value.int _ _]) _ _ _); (refine' m_index (by is_list) (by assumption) (by omega) (by first | assumption | exact any_mem (by assumption)) ?_))))
  (k_with "m_enterC" => (((have _ : PySem.Challenge.rw_pb0243_02 = PySem.Challenge.rw_pb0243_02 → hd02.heap_39 = hd02.heap_39 := by k_fill; exact fun _ => rfl); k_dflt (refine' enterC (binds := by k_extra "binds") (by k_asm) (by k_asm) (by k_asm) (by k_asm) (by k_asm) (by exact rfl) (by exact rfl) (by assumption) (by k_is) (by k_is) (by ktr_room) (by exact BindsTo.of_eq rfl) (by exact rfl) (by decide +kernel) ?_ (by exact rfl) (by exact rfl) (by exact rfl); k_whole; intro _ _ _ _ _ _ _ yN yY _ _ _ _ yl1; (try k_lt yl1); k_cells yY; (try simp only [List.cons_append, List.nil_append] at yN); (with_reducible ktr_call "hid" (News _ _ _ _)); (try (revert yl1; intro _)); (try dsimp only); (try k_fold)))))
  (k_with "exec For Name Name cons nil" => ((refine hold_stop (by assumption) ?_)))
  (k_with "pyIter ref" => ((k_here; (rename LoopInvY _ _ _ => hJ); (rename Fr _ _ _ _ => yF); (rename News _ _ _ _ => yN); (with_unfolding_all refine' loop_listY hJ (by rfl) (by rfl) rfl yF yN ?_ ?_ ?_ ?_))))
  (k_with "binaryOp Add bytes bytes" => ((k_here; (with_reducible show wpAny _ _ (binaryOp Operator.Add (Value.bytes _ _) (Value.bytes _ _)) _ _ _); (refine KBy.add_bytes (by first | with_unfolding_all exact Nat.le_trans (Nat.add_le_add (by assumption) (Nat.le_refl _)) (by decide)) ?_); intro _ _)))
  (k_with "compareOp NotEq ref ref" => ((k_here; (with_reducible show wpAny _ _ (compareOp CmpOp.NotEq (Value.ref _) (Value.ref _)) _ _ _); (with_reducible rename News _ _ _ _ => nN'); k_dflt (refine' m_ne_nil2 nN' (by k_mem) (by k_mem) (by ke_room) ?_))))
  (k_with "k_off" => (((try dsimp only [List.take, OffAll]); (repeat' (first | exact True.intro | refine And.intro ?_ ?_ | (refine off4 ?_ ?_ ?_ ?_ <;> k_extra "om"))))))
  (k_with "call ref" => ((k_here; (with_reducible rename Fr _ _ _ _ => yFo); (with_reducible show wpAny _ _ (call (Value.ref 96) [Value.ref _, Value.int _ _]) _ _ _); k_dflt (refine' MR.use (m_ordered ?_ ?_) (by k_asm) (by k_asm) (by k_asm) (by k_asm) (by k_asm) (by first | exact rfl | assumption) (by assumption) (by assumption) (by k_mem) (by k_mem) (by k_mem) (by k_mem) (by ktr_room) (by ktr_units) True.intro ?_; (first | decide | assumption | omega); (first | assumption | omega)); rintro _ _ _ _ yN _ ⟨_, _, _, rfl, yeD, ynD, yeus, _⟩; (have yN2 := led_growZ yFo yN yeD ynD yeus); clear yN yeD ynD; (try simp only [List.cons_append, List.nil_append] at yN2); (with_reducible ktr_call "hid" (News _ _ _ _)); (have yus := yeus); clear yeus; revert yus; intro _; (try k_sweep); (try k_fold))))
  (k_with "call ref" => ((k_here; (with_reducible show wpAny _ _ (call (Value.ref 117) [Value.ref _, Value.int _ _, Value.ref _]) _ _ _); (rename RestK _ => hRK); k_dflt (refine' MC.useK hRK (m_stand ?_) (by k_asm) (by k_asm) (by k_asm) (by k_asm) (by k_asm) (by first | exact rfl | assumption) (by assumption) (by assumption) (by k_mem) (by k_mem) (by k_mem) (by k_mem) (by ktr_room) (by ktr_units) True.intro (by k_extra "k_off") ?_; (first | decide | assumption | omega)); (with_reducible rename Fx _ _ _ => yfxO); rintro _ _ _ _ _ _ _ yN _ ⟨_, _, _, _, _, _, _, _, _, rfl, -, yfx⟩ ⟨rfl, rfl, rfl⟩; (first | (rename FxNext _ _ _ => yfxn; have yfxG := yfxn.fx; clear yfxn) | (have yfxG := Fx.of2 yfx yfxO rfl rfl)); clear yfx; (try simp only [List.cons_append, List.nil_append, List.take] at yN); (with_reducible ktr_call "hid" (Fx _ _ _)); (with_reducible ktr_call "hid" (News _ _ _ _)); (try k_sweep); (try k_fold))))
  (k_with "pyIter ref" => ((refine hold_iter (by assumption) ?_)))
  (k_with "CompSrcT" => ((refine hold_iter (by assumption) ?_)))
  (k_with "CompSrc" => ((refine hold_iter (by assumption) ?_)))
  (k_with "exec Assign cons ListComp" => ((k_here; (rename StopIter => hJ); k_dflt (first | (refine PyProof.Rows.LCt.Assign_ListComp_T (F₀ := by k_asm) (by rfl) (by with_unfolding_all rfl) (by with_unfolding_all rfl) (by decide) (by rfl) (by decide) (by rfl) (by rfl) (by rfl) ?_)))))
  (k_with "exec For Name Call cons nil" => ((k_here; (rename StopIter => hJX); (rename Fr _ _ _ _ => lF'); (with_unfolding_all refine' For_invVF lF' (by exact rfl) (by exact rfl) ?_; k_whole))))
  (k_with "compareOp Gt ref ref" => ((k_here; (with_reducible show wpAny _ _ (compareOp CmpOp.Gt (Value.ref _) (Value.ref _)) _ _ _); (with_reducible rename News _ _ _ _ => nN'); (with_reducible rename Fr _ _ _ _ => nF'); k_dflt (refine' m_tup_gt nF' nN' (by k_mem) (by assumption) (by ke_room) ?_))))
  (k_with "compareOp NotIn str ref" => ((k_here; (with_reducible show wpAny _ _ (compareOp CmpOp.NotIn (Value.str _ _) (Value.ref _)) _ _ _); (with_reducible rename Fr _ _ _ _ => nF'); k_dflt (refine' notin_tuple_strs (isTupOf (nF'.keep _ _ (by assumption))) (by exact .cons _ _ (.cons _ _ .nil)) ?_))))
  (k_with "call ref" => ((k_here; (with_reducible show wpAny _ _ (call (Value.ref 124) [Value.ref _, Value.str _ _]) _ _ _); (rename RestK _ => hRK); (with_reducible rename News _ _ _ _ => yN); (with_reducible rename Fr _ _ _ _ => yF); (have ywas := Was.mk yF yN); k_dflt (refine' MC.useK hRK (m_lose) (by k_asm) (by k_asm) (by k_asm) (by k_asm) (by k_asm) (by first | exact rfl | assumption) (by assumption) (by assumption) (by k_mem) (by k_mem) (by k_mem) (by k_mem) (by ktr_room) (by ktr_units) True.intro (by k_extra "k_off") ?_); (with_reducible ktr_call "hid" (Was _ _ _ _ _)); rintro _ _ _ _ _ _ _ yN' _ _ ⟨⟨_, _, _, rfl, yeT, ynT⟩, rfl, rfl⟩; (try simp only [List.append_nil, List.take] at yN'); (have yN2 := led_grow yF yN' yeT ynT); (have yTT := fun (_ : Unit) => And.intro yeT ynT); clear yN' yeT ynT; (with_reducible ktr_call "hid" (News _ _ _ _)); revert yTT; intro _; (try k_sweep))))
  (k_with "subscriptTail" => ((k_here; (with_reducible show wpAny _ _ (subscriptTail _ (Expr.Slice _ _ none _) (Value.bytes _ _) (Value.ref _)) _ _ _); (with_reducible rename Fr _ _ _ _ => yF); (with_reducible rename News _ _ _ _ => yN); (refine KBc.slice_K (s := ⟨_, _, _, _, _⟩) yF yN rfl (by constructor) (by constructor) (by rw [KBw.ints_length]; omega) ?_); intro _ _ _ _ _ _; (try k_sweep))))
  trivial
theorem picked_none (b : Bytes) : (KBy.picked b none (some ((#[] : Bytes).size : Int))).toList = [] := by
  have h := KBc.ints_picked (b := b) rfl none (some ((#[] : Bytes).size : Int))
  have h2 := KBw.ints_length (KBy.picked b none (some ((#[] : Bytes).size : Int)))
  rw [h] at h2
  have h3 : (KBy.picked b none (some ((#[] : Bytes).size : Int))).size = 0 := by
    rw [← h2]
    simp [clipAt]
    left; omega
  exact List.eq_nil_of_length_eq_zero (by simpa using h3)
theorem m_start {w : World} {I : Ids} {st : St} {atv : Value} {wh : Int} {tw t1 t2 : Tok} (hw : wh = 0 ∨ wh = 1) (h60 : st.cs.length < 60) (hacc : I.acc = Str.ofString "dynamic" ∨ I.acc = Str.ofString "sequential") (hmode : I.mode = Str.ofString "i-o" ∨ I.mode = Str.ofString "input") :
    MC w I 152 12 130 [.ref I.x, .str (Str.ofString ">=") t1, .bytes #[] t2, .int wh tw] st atv (fun _ => True) (fun h v st' atv' h' => ∃ us, Sorted st wh us ∧ ((∃ t, us[0]? = some t ∧ (∃ t', v = .str (Str.ofString "00") t') ∧ st' = { st with which := wh, nowhere := false, last := -1 } ∧ AtIs (hideAll h' I.adr) atv' t.b (t.s - 1)) ∨ (us = [] ∧ (∃ t', v = .str (Str.ofString "23") t') ∧ st' = { st with nowhere := true, last := -1 } ∧ atv' = atv))) := by
  constructor
  intro p loose mean mg mb dp un gd cn cs a ccd cl outer A₀ base h₀ L m led s Q E B F X N T hk hd hu KF pre hret
  obtain ⟨kt, tm, ta, tn, twh, tl, hi, nc, ns, rfl, ok, fx⟩ := id KF
  (k_with "binds" => exact ([(Str.ofString "self", .ref I.x), (Str.ofString "op", .str (Str.ofString ">=") t1), (Str.ofString "key", .bytes #[] t2), (Str.ofString "which", .int wh tw)]))
  k_extra "m_enter"
  rename_i g L₁ h₁ FG F₁ N₁ B₁ X₁ T₁ G
  have fxg0 := fx.keeps (gsub_hide G)
  have fxg : Fx g I { st with last := -1 } := Fx.same fxg0 rfl rfl fxg0.wh
  have hlen := fxg0.len
  have n1 := ok.n1
  have n4 := ok.n4
  have n5 := ok.n5
  obtain ⟨r1, r2, e63⟩ := reading_at X₁
  have hR : RestK 1 := ⟨⟩
  have hS : StopIter := ⟨⟩
  k_steps
  · with_reducible rename (I.acc == _) = true => hc
    rcases hacc with e | e <;> (rw [e] at hc; exact absurd hc (by decide))
  rotate_right
  · with_reducible rename List.any _ _ = false => hc
    rcases hmode with e | e <;> (rw [e] at hc; exact absurd hc (by decide))
  · unfold Hold
    rename StopIter => hS0; clear hS0
    with_reducible rename News _ _ _ _ => N2
    with_reducible rename Fr _ _ _ _ => F2
    with_reducible rename Sorted _ _ _ => sus
    rename_i hcur tkc keepc Dx cx us eus
    have hul : us.length = st.cs.length := by have := sus.1.length_eq; simpa using this
    have hJ : LoopInvY Dx (listOf (us.map fun t => Value.ref t.a).toArray cx) (fun k nx => nx = ledOf N2 ∧ k = 0) := ⟨⟩
    dsimp only [ledOf] at hJ
    k_steps
    · unfold Hold; rintro i nx ⟨rfl, _⟩; exact .head _
    · exact ⟨rfl, rfl⟩
    · unfold Hold
      rintro I' i v _ h2 tk2 itO hi' hne ⟨rfl, rfl⟩ F3 N3
      obtain ⟨t, ht, rfl⟩ := row_at hi'
      obtain ⟨i0, hi0, hp0, hb0⟩ := row_of fxg sus ht
      have N4 := News.dup1 N3 (p := (t.a, t.obj)) (.tail _ (.tail _ (.tail _ (.tail _ (.tail _ (row_mem ht))))))
      clear N3
      k_steps
      rotate_left
      · exfalso
        with_reducible rename (_ == _) = false => hc
        rw [picked_none] at hc
        exact absurd hc (by decide)
      · k_extra "m_end"
        with_reducible rename Fr _ _ _ _ => mF
        with_reducible rename News _ _ _ _ => mN
        exact ⟨_, _, mF, hret _ { st with which := wh, nowhere := false, last := -1 } _ _ _ (led4 _ _ _ _ _ _ _ _ _ _ _ _ _) (Fr.back FG mF) (News.back FG fun p hp => mN p (sub4 hp)) (keep_back G mF) ⟨_, _, _, _, _, _, _, _, _, rfl, ok, Fx.same (fx.keeps (gsub_hide2 (keep_back G mF))) rfl rfl hw⟩ ⟨us, sus, .inl ⟨t, ht, ⟨_, rfl⟩, rfl, ⟨_, _, _, rfl, hideAll_get _ (mN _ (.tail _ (.tail _ (.tail _ (.tail _ (.head _)))))).1 (off4 (by k_extra "om") (by k_extra "om") (by k_extra "om") (by k_extra "om"))⟩⟩⟩⟩
    · unfold Hold
      rintro u2 _ h2 tk2 ⟨rfl, hl0⟩ F3 N3
      clear hR
      have hR0 : RestK 0 := ⟨⟩
      k_steps
      k_extra "m_end"
      with_reducible rename Fr _ _ _ _ => mF
      with_reducible rename News _ _ _ _ => mN
      exact ⟨_, _, mF, hret _ _ _ _ _ _ (Fr.back FG mF) (News.back FG fun p hp => mN p (.tail _ hp)) (keep_back G mF) (by assumption) ⟨us, sus, .inr ⟨List.eq_nil_of_length_eq_zero (by simpa using hl0), ⟨_, rfl⟩, rfl, rfl⟩⟩⟩

theorem w_DC12 : True := by
  k_with_none
  (k_with "eval Name" => (k_here; k_dflt (refine' nameX_L (by k_asm) (by rfl) ?_ (by rfl) (by rfl); k_whole)))
  (k_with "cj" => (first | assumption | exact And.left (by assumption) | exact And.left (And.right (by assumption)) | exact And.right (by assumption) | exact And.left (And.right (And.right (by assumption))) | exact And.right (And.right (by assumption)) | exact And.left (And.right (And.right (And.right (by assumption)))) | exact And.right (And.right (And.right (by assumption))) | exact And.left (And.right (And.right (And.right (And.right (by assumption))))) | exact And.right (And.right (And.right (And.right (by assumption)))) | exact And.left (And.right (And.right (And.right (And.right (And.right (by assumption)))))) | exact And.right (And.right (And.right (And.right (And.right (by assumption))))) | exact And.left (And.right (And.right (And.right (And.right (And.right (And.right (by assumption))))))) | exact And.right (And.right (And.right (And.right (And.right (And.right (by assumption)))))) | exact And.left (And.right (And.right (And.right (And.right (And.right (And.right (And.right (by assumption)))))))) | exact And.right (And.right (And.right (And.right (And.right (And.right (And.right (by assumption))))))) | exact And.left (And.right (And.right (And.right (And.right (And.right (And.right (And.right (And.right (by assumption))))))))) | exact And.right (And.right (And.right (And.right (And.right (And.right (And.right (And.right (by assumption)))))))) | exact And.left (And.right (And.right (And.right (And.right (And.right (And.right (And.right (And.right (And.right (by assumption)))))))))) | exact And.right (And.right (And.right (And.right (And.right (And.right (And.right (And.right (And.right (by assumption))))))))) | exact And.left (And.right (And.right (And.right (And.right (And.right (And.right (And.right (And.right (And.right (And.right (by assumption))))))))))) | exact And.right (And.right (And.right (And.right (And.right (And.right (And.right (And.right (And.right (And.right (by assumption)))))))))) | exact And.left (And.right (And.right (And.right (And.right (And.right (And.right (And.right (And.right (And.right (And.right (And.right (by assumption)))))))))))) | exact And.right (And.right (And.right (And.right (And.right (And.right (And.right (And.right (And.right (And.right (And.right (by assumption))))))))))) | exact And.left (And.right (And.right (And.right (And.right (And.right (And.right (And.right (And.right (And.right (And.right (And.right (And.right (by assumption))))))))))))) | exact And.right (And.right (And.right (And.right (And.right (And.right (And.right (And.right (And.right (And.right (And.right (And.right (by assumption)))))))))))) | exact And.left (And.right (And.right (And.right (And.right (And.right (And.right (And.right (And.right (And.right (And.right (And.right (And.right (And.right (by assumption)))))))))))))) | exact And.right (And.right (And.right (And.right (And.right (And.right (And.right (And.right (And.right (And.right (And.right (And.right (And.right (by assumption)))))))))))))))
  (k_with "cj2" => (first | k_extra "cj" | exact Nat.lt_succ_of_lt (by k_extra "cj") | exact Nat.lt_succ_of_lt (Nat.lt_succ_of_lt (by k_extra "cj")) | exact Nat.lt_succ_self _))
  (k_with "om" => (first | (with_reducible assumption) | (with_reducible exact Nat.ne_of_gt (by k_extra "cj")) | (with_reducible exact Nat.ne_of_lt (by k_extra "cj")) | (with_reducible k_extra "cj2") | (with_reducible exact Nat.ne_of_lt (by k_extra "cj2")) | (with_reducible exact Nat.ne_of_gt (by k_extra "cj2")) | (with_reducible exact Ne.symm (by k_extra "cj")) | omega))
  (k_with "k_ne" => (refine neN ?_; (try dsimp only); k_extra "om"))
  trivial
theorem w_DC12_0 : True := by
  (k_with "m_enter" => (((have _ : PySem.Challenge.rw_pb0243_02 = PySem.Challenge.rw_pb0243_02 → hd02.heap_39 = hd02.heap_39 := by k_fill; exact fun _ => rfl); k_dflt (refine' enterM (binds := by k_extra "binds") (by k_asm) (by k_asm) (by k_asm) (by k_asm) (by k_asm) (by exact rfl) (by exact rfl) (by assumption) (by k_is) (by k_is) (by ktr_room) (by first | exact BindsTo.of_eq rfl | (refine' kp_binds (by k_in) (by exact fun _ => rfl))) (by exact locs rfl) ?_ (by exact rfl) (by exact rfl) (by exact rfl) (by decide); k_whole; intro _ _ _ _ _ _ _ _ _ _; (try dsimp only [List.reverse_cons, List.reverse_nil, List.nil_append, List.cons_append, List.length_cons, List.length_nil]); (try k_fold)))))
  (k_with "m_end" => ((iterate 4 (first | (k_unfold; (try dsimp only)) | dsimp only | skip))))
  (k_with "call builtin:len" => ((k_here; (with_reducible show wpAny _ _ (call (Value.builtin "len") [Value.ref _]) _ _ _); (refine' m_len (by k_asm) (by k_mem) (by omega) ?_))))
  (k_with "subscriptTail" => ((k_here; (with_reducible show wpAny _ _ (subscriptTail _ _ (Value.ref _) (Value.int (Nat.cast _) _)) _ _ _); (refine' m_item (by k_asm) (by k_mem) (by assumption) (by omega) ?_))))
  (k_with "pyIter ref" => ((k_here; (rename LoopInv _ => hJ); (rename Fr _ _ _ _ => yF); (rename News _ _ _ _ => yN); (rename IsRange _ _ _ _ _ _ _ _ => rgX); (with_unfolding_all refine' loop_rangeM hJ (by rfl) (by rfl) rgX rfl yF yN ?_ ?_ ?_ ?_))))
  (k_with "TurnPost" => ((dsimp only [TurnPost])))
  (k_with "call ref" => ((k_here; (with_reducible show wpAny _ _ (call (Value.ref 89) [Value.ref _, Value.bytes _ _, Value.int _ _]) _ _ _); k_dflt (refine' MR.use (m_worth ?_ ?_) (by k_asm) (by k_asm) (by k_asm) (by k_asm) (by k_asm) (by first | exact rfl | assumption) (by assumption) (by assumption) (by k_mem) (by k_mem) (by k_mem) (by k_mem) (by ktr_room) (by ktr_units) True.intro ?_; (first | decide | assumption); assumption); rintro _ _ _ _ _ _ ⟨_, rfl⟩; (try k_sweep); (try k_fold))))
  (k_with "exec For Name Call cons nil" => ((refine hold_stop (by assumption) ?_)))
  (k_with "exec For Name Name cons nil" => ((refine hold_stop (by assumption) ?_)))
  (k_with "k_all" => (assumption))
  (k_with "call builtin:list.append" => ((k_here; (try dsimp only [List.nil_append, List.cons_append]); (with_reducible show wpAny _ _ (call (Value.builtin "list.append") [Value.ref _, _]) _ _ _); (refine' m_append (by k_asm) (by k_asm) (by k_upd) (by omega) ?_); intro _ _ _; (try k_sweep))))
  (k_with "call builtin:list.pop" => ((k_here; (try dsimp only [List.nil_append, List.cons_append]); (with_reducible show wpAny _ _ (call (Value.builtin "list.pop") [Value.ref _, Value.int (Nat.cast _) _]) _ _ _); (refine' m_popAt (by k_asm) (by k_asm) (by k_upd) (by assumption) (by omega) ?_); intro _ _ _; (try k_sweep))))
  (k_with "eval ListComp" => ((k_here; (rename CompInv _ => hJ); k_dflt (first | (refine PyProof.Rows.LCg.ListComp_U (F₀ := by k_asm) (by with_unfolding_all rfl) (by decide) (by rfl) (by decide) (by rfl) ?_) | (refine PyProof.Rows.LCt.ListComp_T (F₀ := by k_asm) (by with_unfolding_all rfl) (by decide) (by rfl) (by decide) (by rfl) ?_)))))
  (k_with "exec Assign cons ListComp" => ((k_here; (rename CompInv _ => hJ); k_dflt (first | (refine PyProof.Rows.LCg.Assign_ListComp_U (F₀ := by k_asm) (by rfl) (by with_unfolding_all rfl) (by with_unfolding_all rfl) (by decide) (by rfl) (by decide) (by rfl) (by rfl) (by rfl) ?_) | (refine PyProof.Rows.LCt.Assign_ListComp_T (F₀ := by k_asm) (by rfl) (by with_unfolding_all rfl) (by with_unfolding_all rfl) (by decide) (by rfl) (by decide) (by rfl) (by rfl) (by rfl) ?_)))))
  (k_with "CompSrc" => ((k_here; (rename CompInv _ => hJ); k_dflt (first | (refine' comp_listM hJ (by rfl) (by k_asm) (by k_asm) (by k_mem) ?_ ?_ ?_ ?_) | (refine' comp_rangeM hJ (by rfl) (by k_asm) (by k_asm) (by assumption) (by rfl) ?_ ?_ ?_ ?_)))))
  (k_with "CompSrcT" => ((k_here; (rename CompInv _ => hJ); k_dflt (refine' comp_listTM hJ (by rfl) (by k_asm) (by k_asm) (by k_mem) ?_ ?_ ?_ ?_))))
  (k_with "call builtin:list.index" => ((k_here; (try dsimp only [List.nil_append, List.cons_append]); (with_reducible show wpAny _ _ (call (Value.builtin "list.index") [Value.ref _, Value.int _ _]) _ _ _); (refine' m_index (by is_list) (by assumption) (by omega) (by first | assumption | exact any_mem (by assumption)) ?_))))
  (k_with "m_enterC" => (((have _ : PySem.Challenge.rw_pb0243_02 = PySem.Challenge.rw_pb0243_02 → hd02.heap_39 = hd02.heap_39 := by k_fill; exact fun _ => rfl); k_dflt (refine' enterC (binds := by k_extra "binds") (by k_asm) (by k_asm) (by k_asm) (by k_asm) (by k_asm) (by exact rfl) (by exact rfl) (by assumption) (by k_is) (by k_is) (by ktr_room) (by first | exact BindsTo.of_eq rfl | (refine' kp_binds (by assumption) (by exact fun _ => rfl))) (by exact rfl) (by decide +kernel) ?_ (by exact rfl) (by exact rfl) (by exact rfl); k_whole; intro _ _ _ _ _ _ _ yN yY _ _ _ _ yl1; (try k_lt yl1); k_cells yY; (try simp only [List.cons_append, List.nil_append] at yN); (with_reducible ktr_call "hid" (News _ _ _ _)); (try (revert yl1; intro _)); (try dsimp only); (try k_fold)))))
  (k_with "exec For Name Name cons nil" => ((refine hold_stop (by assumption) ?_)))
  (k_with "pyIter ref" => ((k_here; (rename LoopInvY _ _ _ => hJ); (rename Fr _ _ _ _ => yF); (rename News _ _ _ _ => yN); (with_unfolding_all refine' loop_listY hJ (by rfl) (by rfl) rfl yF yN ?_ ?_ ?_ ?_))))
  (k_with "binaryOp Add bytes bytes" => ((k_here; (with_reducible show wpAny _ _ (binaryOp Operator.Add (Value.bytes _ _) (Value.bytes _ _)) _ _ _); (refine KBy.add_bytes (by first | with_unfolding_all exact Nat.le_trans (Nat.add_le_add (by assumption) (Nat.le_refl _)) (by decide)) ?_); intro _ _)))
  (k_with "compareOp NotEq ref ref" => ((k_here; (with_reducible show wpAny _ _ (compareOp CmpOp.NotEq (Value.ref _) (Value.ref _)) _ _ _); (with_reducible rename News _ _ _ _ => nN'); k_dflt (refine' m_ne_nil2 nN' (by k_mem) (by k_mem) (by ke_room) ?_))))
  (k_with "k_off" => (((try dsimp only [List.take, OffAll]); (repeat' (first | exact True.intro | refine And.intro ?_ ?_ | (refine off4 ?_ ?_ ?_ ?_ <;> k_extra "om"))))))
  (k_with "call ref" => ((k_here; (with_reducible rename Fr _ _ _ _ => yFo); (with_reducible show wpAny _ _ (call (Value.ref 96) [Value.ref _, Value.int _ _]) _ _ _); k_dflt (refine' MR.use (m_ordered ?_ ?_) (by k_asm) (by k_asm) (by k_asm) (by k_asm) (by k_asm) (by first | exact rfl | assumption) (by assumption) (by assumption) (by k_mem) (by k_mem) (by k_mem) (by k_mem) (by ktr_room) (by ktr_units) True.intro ?_; (first | decide | assumption | omega); (first | assumption | omega)); rintro _ _ _ _ yN _ ⟨_, _, _, rfl, yeD, ynD, yeus, _⟩; (have yN2 := led_growZ yFo yN yeD ynD yeus); clear yN yeD ynD; (try simp only [List.cons_append, List.nil_append] at yN2); (with_reducible ktr_call "hid" (News _ _ _ _)); (have yus := yeus); clear yeus; revert yus; intro _; (try k_sweep); (try k_fold))))
  (k_with "call ref" => ((k_here; (with_reducible show wpAny _ _ (call (Value.ref 117) [Value.ref _, Value.int _ _, Value.ref _]) _ _ _); (rename RestK _ => hRK); k_dflt (refine' MC.useK hRK (m_stand ?_) (by k_asm) (by k_asm) (by k_asm) (by k_asm) (by k_asm) (by first | exact rfl | assumption) (by assumption) (by assumption) (by k_mem) (by k_mem) (by k_mem) (by k_mem) (by ktr_room) (by ktr_units) True.intro (by k_extra "k_off") ?_; (first | decide | assumption | omega)); (with_reducible rename Fx _ _ _ => yfxO); rintro _ _ _ _ _ _ _ yN _ ⟨_, _, _, _, _, _, _, _, _, rfl, -, yfx⟩ ⟨rfl, rfl, rfl⟩; (first | (rename FxNext _ _ _ => yfxn; have yfxG := yfxn.fx; clear yfxn) | (have yfxG := Fx.of2 yfx yfxO rfl rfl)); clear yfx; (try simp only [List.cons_append, List.nil_append, List.take] at yN); (with_reducible ktr_call "hid" (Fx _ _ _)); (with_reducible ktr_call "hid" (News _ _ _ _)); (try k_sweep); (try k_fold))))
  (k_with "pyIter ref" => ((refine hold_iter (by assumption) ?_)))
  (k_with "CompSrcT" => ((refine hold_iter (by assumption) ?_)))
  (k_with "CompSrc" => ((refine hold_iter (by assumption) ?_)))
  (k_with "exec Assign cons ListComp" => ((k_here; (rename StopIter => hJ); k_dflt (first | (refine PyProof.Rows.LCt.Assign_ListComp_T (F₀ := by k_asm) (by rfl) (by with_unfolding_all rfl) (by with_unfolding_all rfl) (by decide) (by rfl) (by decide) (by rfl) (by rfl) (by rfl) ?_)))))
  (k_with "exec For Name Call cons nil" => ((k_here; (rename StopIter => hJX); (rename Fr _ _ _ _ => lF'); (with_unfolding_all refine' For_invVF lF' (by exact rfl) (by exact rfl) ?_; k_whole))))
  (k_with "compareOp Gt ref ref" => ((k_here; (with_reducible show wpAny _ _ (compareOp CmpOp.Gt (Value.ref _) (Value.ref _)) _ _ _); (with_reducible rename News _ _ _ _ => nN'); (with_reducible rename Fr _ _ _ _ => nF'); k_dflt (refine' m_tup_gt nF' nN' (by k_mem) (by assumption) (by ke_room) ?_))))
  (k_with "compareOp NotIn str ref" => ((k_here; (with_reducible show wpAny _ _ (compareOp CmpOp.NotIn (Value.str _ _) (Value.ref _)) _ _ _); (with_reducible rename Fr _ _ _ _ => nF'); k_dflt (refine' notin_tuple_strs (isTupOf (nF'.keep _ _ (by assumption))) (by exact .cons _ _ (.cons _ _ .nil)) ?_))))
  (k_with "call ref" => ((k_here; (with_reducible show wpAny _ _ (call (Value.ref 124) [Value.ref _, Value.str _ _]) _ _ _); (rename RestK _ => hRK); (with_reducible rename News _ _ _ _ => yN); (with_reducible rename Fr _ _ _ _ => yF); (have ywas := Was.mk yF yN); k_dflt (refine' MC.useK hRK (m_lose) (by k_asm) (by k_asm) (by k_asm) (by k_asm) (by k_asm) (by first | exact rfl | assumption) (by assumption) (by assumption) (by k_mem) (by k_mem) (by k_mem) (by k_mem) (by ktr_room) (by ktr_units) True.intro (by k_extra "k_off") ?_); (with_reducible ktr_call "hid" (Was _ _ _ _ _)); intro _ _ _ _ _ _ _ _ _ _ _; (try k_sweep))))
  (k_with "subscriptTail" => ((k_here; (with_reducible show wpAny _ _ (subscriptTail _ (Expr.Slice _ _ none _) (Value.bytes _ _) (Value.ref _)) _ _ _); (with_reducible rename Fr _ _ _ _ => yF); (with_reducible rename News _ _ _ _ => yN); (refine KBc.slice_K (s := ⟨_, _, _, _, _⟩) yF yN rfl (by constructor) (by constructor) (by rw [KBw.ints_length]; omega) ?_); intro _ _ _ _ _ _; (try k_sweep))))
  (k_with "call ref" => ((k_here; (with_reducible show wpAny _ _ (call (Value.ref 129) [Value.ref _, Value.ref _, Value.int _ _]) _ _ _); (rename RestK _ => hRK); (with_reducible rename News _ _ _ _ => yN); (with_reducible rename Fr _ _ _ _ => yF); (have ywas := Was.mk yF yN); k_dflt (refine' MC.useK hRK (m_found ?_ ?_ ?_ ?_ ?_) (by k_asm) (by k_asm) (by k_asm) (by k_asm) (by k_asm) (by first | exact rfl | assumption) (by assumption) (by assumption) (by k_mem) (by k_mem) (by k_mem) (by k_mem) (by ktr_room) (by ktr_units) (by first | exact ⟨(yN (_, _) (by k_mem)).1, by assumption⟩) (by k_extra "k_off") ?_; rotate_left; assumption; assumption; assumption; assumption; assumption); (with_reducible ktr_call "hid" (Was _ _ _ _ _)); rintro _ _ _ _ _ _ _ yN' _ _ _; (try simp only [List.append_nil, List.take] at yN'); (with_reducible ktr_call "hid" (News _ _ _ _)); (try k_sweep))))
  trivial
noncomputable def firstEq (us : List TRow) (key : Bytes) (t : TRow) : Prop := ∃ k, us[k]? = some t ∧ (t.b.toList == key.toList) = true ∧ ∀ j (t' : TRow), @LT.lt Nat _ j k → us[j]? = some t' → (t'.b.toList == key.toList) = false
noncomputable def RaPost (I : Ids) (st : St) (atv : Value) (wh : Int) (key : Bytes) (h : Heap) (v : Value) (st' : St) (atv' : Value) (h' : Heap) : Prop :=
  ∃ us, Sorted st wh us ∧ ((∃ t i, firstEq us key t ∧ i < st.cs.length ∧ t.p = ((i : Nat) : Int) ∧ Tup h h' v (statOf st wh t.b t.s) (st.cs.getD i default).1 ∧ st' = { st with which := wh, nowhere := false, last := (firsts st).getD i 0 }) ∨ ((∀ t ∈ us, (t.b.toList == key.toList) = false) ∧ Tup h h' v (Str.ofString "23") #[] ∧ st' = { st with nowhere := true, last := -1 } ∧ atv' = atv))
theorem m_read_at0 {w : World} {I : Ids} {st : St} {atv : Value} {key : Bytes} {t1 : Tok} (h60 : st.cs.length < 60) (hacc : I.acc = Str.ofString "dynamic") (hmode : I.mode = Str.ofString "i-o" ∨ I.mode = Str.ofString "input") :
    MC w I 144 12 130 [.ref I.x, .bytes key t1] st atv (fun _ => True) (RaPost I st atv 0 key) := by
  constructor
  intro p loose mean mg mb dp un gd cn cs a ccd cl outer A₀ base h₀ L m led s Q E B F X N T hk hd hu KF pre hret
  obtain ⟨kt, tm, ta, tn, twh, tl, hi, nc, ns, rfl, ok, fx⟩ := id KF
  (k_with "binds" => exact ([(Str.ofString "self", .ref I.x), (Str.ofString "key", .bytes key t1), (Str.ofString "which", .int 0 356)]))
  k_extra "m_enter"
  rename_i g L₁ h₁ FG F₁ N₁ B₁ X₁ T₁ G
  have fxg := fx.keeps (gsub_hide G)
  have hlen := fxg.len
  have hwh : (0 : Int) = 0 ∨ (0 : Int) = 1 := by decide
  have n1 := ok.n1
  have n4 := ok.n4
  have n5 := ok.n5
  obtain ⟨r1, r2, e63⟩ := reading_at X₁
  have hR : RestK 0 := ⟨⟩
  have hS : StopIter := ⟨⟩
  k_steps
  · with_reducible rename (I.acc == _) = true => hc
    rw [hacc] at hc; exact absurd hc (by decide)
  rotate_right
  · with_reducible rename List.any _ _ = false => hc
    rcases hmode with e | e <;> (rw [e] at hc; exact absurd hc (by decide))
  · unfold Hold
    rename StopIter => hS0; clear hS0
    with_reducible rename News _ _ _ _ => N2
    with_reducible rename Fr _ _ _ _ => F2
    with_reducible rename Sorted _ _ _ => sus
    rename_i hcur tkc keepc Dx cx us eus
    have hul : us.length = st.cs.length := by have := sus.1.length_eq; simpa using this
    have hJ : LoopInvY Dx (listOf (us.map fun t => Value.ref t.a).toArray cx) (fun k nx => nx = ledOf N2 ∧ ∀ j (t : TRow), @LT.lt Nat _ j k → us[j]? = some t → (t.b.toList == key.toList) = false) := ⟨⟩
    dsimp only [ledOf] at hJ
    k_steps
    · unfold Hold; rintro i nx ⟨rfl, _⟩; exact .head _
    · exact ⟨rfl, fun j t h => absurd h (Nat.not_lt_zero j)⟩
    · unfold Hold
      rintro I' i v _ h2 tk2 itO hi' hne ⟨rfl, hlt⟩ F3 N3
      obtain ⟨t, ht, rfl⟩ := row_at hi'
      obtain ⟨i0, hi0, hp0, hb0⟩ := row_of fxg sus ht
      have N4 := News.dup1 N3 (p := (t.a, t.obj)) (.tail _ (.tail _ (.tail _ (.tail _ (.tail _ (row_mem ht))))))
      have toff : t.a ∉ I.adr := tup_off2 (vs := [_, _, _]) N4 (.tail _ (.head _)) fun a ha => by
        rcases List.mem_cons.mp ha with rfl | ha
        · exact ⟨_, .tail _ (.tail _ (.tail _ (.head _))), by simp⟩
        rcases List.mem_cons.mp ha with rfl | ha
        · exact ⟨_, .tail _ (.tail _ (.tail _ (.tail _ (.head _)))), by simp⟩
        rcases List.mem_cons.mp ha with rfl | ha
        · exact ⟨_, .tail _ (.tail _ (.tail _ (.tail _ (.tail _ (.head _))))), by simp⟩
        rcases List.mem_cons.mp ha with rfl | ha
        · exact ⟨_, .tail _ (.tail _ (.tail _ (.tail _ (.tail _ (.tail _ (.head _)))))), by simp⟩
        cases ha
      clear N3
      k_steps
      · k_extra "m_end"
        with_reducible rename Fr _ _ _ _ => mF
        with_reducible rename News _ _ _ _ => mN
        with_reducible rename KFo _ _ _ _ _ _ => mK
        rename Was _ _ _ _ _ => ws
        with_reducible rename (∃ _, _) ∧ _ => po
        obtain ⟨e1, e2, e3⟩ := po
        exact ⟨_, _, mF, hret _ _ _ _ _ _ (Fr.back FG mF) (News.back FG mN) (keep_back G mF) mK (⟨us, sus, .inl ⟨t, i0, ⟨i, ht, by assumption, hlt⟩, hi0, hp0, Tup.back e1 G ws.F ws.N (fun a ha => by
          rcases List.mem_cons.mp ha with rfl | ha
          · exact ⟨_, .tail _ (.tail _ (.tail _ (.head _)))⟩
          rcases List.mem_cons.mp ha with rfl | ha
          · exact ⟨_, .tail _ (.tail _ (.tail _ (.tail _ (.head _))))⟩
          rcases List.mem_cons.mp ha with rfl | ha
          · exact ⟨_, .tail _ (.tail _ (.tail _ (.tail _ (.tail _ (.head _)))))⟩
          rcases List.mem_cons.mp ha with rfl | ha
          · exact ⟨_, .tail _ (.tail _ (.tail _ (.tail _ (.tail _ (.tail _ (.head _))))))⟩
          cases ha), e2⟩⟩)⟩
      · with_reducible rename Fr _ _ _ _ => mF
        with_reducible rename News _ _ _ _ => mN
        with_reducible rename (_ == _) = false => hg
        exact ⟨_, _, _, _, rfl, mF, (fun p hp => mN p (sub_dup1 p hp)), hne, fun z hz => if_neg hz, rfl, fun j t' hj ht' => by
          rcases Nat.lt_or_ge j i with h1 | h1
          · exact hlt j t' h1 ht'
          · have e : j = i := by omega
            rw [e, ht] at ht'
            rw [← Option.some.inj ht']; exact hg⟩
    · unfold Hold
      rintro u2 _ h2 tk2 ⟨rfl, hlt⟩ F3 N3
      k_steps
      k_extra "m_end"
      with_reducible rename Fr _ _ _ _ => mF
      with_reducible rename News _ _ _ _ => mN
      with_reducible rename KFo _ _ _ _ _ _ => mK
      rename Was _ _ _ _ _ => ws
      with_reducible rename (∃ _, _) ∧ _ => po
      obtain ⟨e1, e2, e3⟩ := po
      exact ⟨_, _, mF, hret _ _ _ _ _ _ (Fr.back FG mF) (News.back FG (fun p hp => mN p (List.mem_append_left _ hp))) (keep_back G mF) mK (⟨us, sus, .inr ⟨fun t ht => by
          obtain ⟨j, hj, e⟩ := List.mem_iff_getElem.mp ht
          exact hlt j t (by rw [List.length_map]; exact hj) (by rw [List.getElem?_eq_getElem hj, e]), Tup.back e1 G ws.F ws.N (fun a ha => by
          rcases List.mem_cons.mp ha with rfl | ha
          · exact ⟨_, .tail _ (.head _)⟩
          rcases List.mem_cons.mp ha with rfl | ha
          · exact ⟨_, .tail _ (.tail _ (.head _))⟩
          rcases List.mem_cons.mp ha with rfl | ha
          · exact ⟨_, .tail _ (.tail _ (.tail _ (.head _)))⟩
          rcases List.mem_cons.mp ha with rfl | ha
          · exact ⟨_, .tail _ (.tail _ (.tail _ (.tail _ (.head _))))⟩
          cases ha), e2, e3⟩⟩)⟩
theorem m_read_at1 {w : World} {I : Ids} {st : St} {atv : Value} {key : Bytes} {t1 t2 : Tok} (h60 : st.cs.length < 60) (hacc : I.acc = Str.ofString "dynamic") (hmode : I.mode = Str.ofString "i-o" ∨ I.mode = Str.ofString "input") :
    MC w I 144 12 130 [.ref I.x, .bytes key t1, .int 1 t2] st atv (fun _ => True) (RaPost I st atv 1 key) := by
  constructor
  intro p loose mean mg mb dp un gd cn cs a ccd cl outer A₀ base h₀ L m led s Q E B F X N T hk hd hu KF pre hret
  obtain ⟨kt, tm, ta, tn, twh, tl, hi, nc, ns, rfl, ok, fx⟩ := id KF
  (k_with "binds" => exact ([(Str.ofString "self", .ref I.x), (Str.ofString "key", .bytes key t1), (Str.ofString "which", .int 1 t2)]))
  k_extra "m_enter"
  rename_i g L₁ h₁ FG F₁ N₁ B₁ X₁ T₁ G
  have fxg := fx.keeps (gsub_hide G)
  have hlen := fxg.len
  have hwh : (1 : Int) = 0 ∨ (1 : Int) = 1 := by decide
  have n1 := ok.n1
  have n4 := ok.n4
  have n5 := ok.n5
  obtain ⟨r1, r2, e63⟩ := reading_at X₁
  have hR : RestK 0 := ⟨⟩
  have hS : StopIter := ⟨⟩
  k_steps
  · with_reducible rename (I.acc == _) = true => hc
    rw [hacc] at hc; exact absurd hc (by decide)
  rotate_right
  · with_reducible rename List.any _ _ = false => hc
    rcases hmode with e | e <;> (rw [e] at hc; exact absurd hc (by decide))
  · unfold Hold
    rename StopIter => hS0; clear hS0
    with_reducible rename News _ _ _ _ => N2
    with_reducible rename Fr _ _ _ _ => F2
    with_reducible rename Sorted _ _ _ => sus
    rename_i hcur tkc keepc Dx cx us eus
    have hul : us.length = st.cs.length := by have := sus.1.length_eq; simpa using this
    have hJ : LoopInvY Dx (listOf (us.map fun t => Value.ref t.a).toArray cx) (fun k nx => nx = ledOf N2 ∧ ∀ j (t : TRow), @LT.lt Nat _ j k → us[j]? = some t → (t.b.toList == key.toList) = false) := ⟨⟩
    dsimp only [ledOf] at hJ
    k_steps
    · unfold Hold; rintro i nx ⟨rfl, _⟩; exact .head _
    · exact ⟨rfl, fun j t h => absurd h (Nat.not_lt_zero j)⟩
    · unfold Hold
      rintro I' i v _ h2 tk2 itO hi' hne ⟨rfl, hlt⟩ F3 N3
      obtain ⟨t, ht, rfl⟩ := row_at hi'
      obtain ⟨i0, hi0, hp0, hb0⟩ := row_of fxg sus ht
      have N4 := News.dup1 N3 (p := (t.a, t.obj)) (.tail _ (.tail _ (.tail _ (.tail _ (.tail _ (row_mem ht))))))
      have toff : t.a ∉ I.adr := tup_off2 (vs := [_, _, _]) N4 (.tail _ (.head _)) fun a ha => by
        rcases List.mem_cons.mp ha with rfl | ha
        · exact ⟨_, .tail _ (.tail _ (.tail _ (.head _))), by simp⟩
        rcases List.mem_cons.mp ha with rfl | ha
        · exact ⟨_, .tail _ (.tail _ (.tail _ (.tail _ (.head _)))), by simp⟩
        rcases List.mem_cons.mp ha with rfl | ha
        · exact ⟨_, .tail _ (.tail _ (.tail _ (.tail _ (.tail _ (.head _))))), by simp⟩
        rcases List.mem_cons.mp ha with rfl | ha
        · exact ⟨_, .tail _ (.tail _ (.tail _ (.tail _ (.tail _ (.tail _ (.head _)))))), by simp⟩
        cases ha
      clear N3
      k_steps
      · k_extra "m_end"
        with_reducible rename Fr _ _ _ _ => mF
        with_reducible rename News _ _ _ _ => mN
        with_reducible rename KFo _ _ _ _ _ _ => mK
        rename Was _ _ _ _ _ => ws
        with_reducible rename (∃ _, _) ∧ _ => po
        obtain ⟨e1, e2, e3⟩ := po
        exact ⟨_, _, mF, hret _ _ _ _ _ _ (Fr.back FG mF) (News.back FG mN) (keep_back G mF) mK (⟨us, sus, .inl ⟨t, i0, ⟨i, ht, by assumption, hlt⟩, hi0, hp0, Tup.back e1 G ws.F ws.N (fun a ha => by
          rcases List.mem_cons.mp ha with rfl | ha
          · exact ⟨_, .tail _ (.tail _ (.tail _ (.head _)))⟩
          rcases List.mem_cons.mp ha with rfl | ha
          · exact ⟨_, .tail _ (.tail _ (.tail _ (.tail _ (.head _))))⟩
          rcases List.mem_cons.mp ha with rfl | ha
          · exact ⟨_, .tail _ (.tail _ (.tail _ (.tail _ (.tail _ (.head _)))))⟩
          rcases List.mem_cons.mp ha with rfl | ha
          · exact ⟨_, .tail _ (.tail _ (.tail _ (.tail _ (.tail _ (.tail _ (.head _))))))⟩
          cases ha), e2⟩⟩)⟩
      · with_reducible rename Fr _ _ _ _ => mF
        with_reducible rename News _ _ _ _ => mN
        with_reducible rename (_ == _) = false => hg
        exact ⟨_, _, _, _, rfl, mF, (fun p hp => mN p (sub_dup1 p hp)), hne, fun z hz => if_neg hz, rfl, fun j t' hj ht' => by
          rcases Nat.lt_or_ge j i with h1 | h1
          · exact hlt j t' h1 ht'
          · have e : j = i := by omega
            rw [e, ht] at ht'
            rw [← Option.some.inj ht']; exact hg⟩
    · unfold Hold
      rintro u2 _ h2 tk2 ⟨rfl, hlt⟩ F3 N3
      k_steps
      k_extra "m_end"
      with_reducible rename Fr _ _ _ _ => mF
      with_reducible rename News _ _ _ _ => mN
      with_reducible rename KFo _ _ _ _ _ _ => mK
      rename Was _ _ _ _ _ => ws
      with_reducible rename (∃ _, _) ∧ _ => po
      obtain ⟨e1, e2, e3⟩ := po
      exact ⟨_, _, mF, hret _ _ _ _ _ _ (Fr.back FG mF) (News.back FG (fun p hp => mN p (List.mem_append_left _ hp))) (keep_back G mF) mK (⟨us, sus, .inr ⟨fun t ht => by
          obtain ⟨j, hj, e⟩ := List.mem_iff_getElem.mp ht
          exact hlt j t (by rw [List.length_map]; exact hj) (by rw [List.getElem?_eq_getElem hj, e]), Tup.back e1 G ws.F ws.N (fun a ha => by
          rcases List.mem_cons.mp ha with rfl | ha
          · exact ⟨_, .tail _ (.head _)⟩
          rcases List.mem_cons.mp ha with rfl | ha
          · exact ⟨_, .tail _ (.tail _ (.head _))⟩
          rcases List.mem_cons.mp ha with rfl | ha
          · exact ⟨_, .tail _ (.tail _ (.tail _ (.head _)))⟩
          rcases List.mem_cons.mp ha with rfl | ha
          · exact ⟨_, .tail _ (.tail _ (.tail _ (.tail _ (.head _))))⟩
          cases ha), e2, e3⟩⟩)⟩

section
open Sem (wp)
open AutoSeq1 (wpAny_loadPart')
theorem w_EN : True := by
  k_with_none
  (k_with "eval Name" => (k_here; k_dflt (refine' nameX_L (by k_asm) (by rfl) ?_ (by rfl) (by rfl); k_whole)))
  (k_with "cj" => (first | assumption | exact And.left (by assumption) | exact And.left (And.right (by assumption)) | exact And.right (by assumption) | exact And.left (And.right (And.right (by assumption))) | exact And.right (And.right (by assumption)) | exact And.left (And.right (And.right (And.right (by assumption)))) | exact And.right (And.right (And.right (by assumption))) | exact And.left (And.right (And.right (And.right (And.right (by assumption))))) | exact And.right (And.right (And.right (And.right (by assumption)))) | exact And.left (And.right (And.right (And.right (And.right (And.right (by assumption)))))) | exact And.right (And.right (And.right (And.right (And.right (by assumption))))) | exact And.left (And.right (And.right (And.right (And.right (And.right (And.right (by assumption))))))) | exact And.right (And.right (And.right (And.right (And.right (And.right (by assumption)))))) | exact And.left (And.right (And.right (And.right (And.right (And.right (And.right (And.right (by assumption)))))))) | exact And.right (And.right (And.right (And.right (And.right (And.right (And.right (by assumption))))))) | exact And.left (And.right (And.right (And.right (And.right (And.right (And.right (And.right (And.right (by assumption))))))))) | exact And.right (And.right (And.right (And.right (And.right (And.right (And.right (And.right (by assumption)))))))) | exact And.left (And.right (And.right (And.right (And.right (And.right (And.right (And.right (And.right (And.right (by assumption)))))))))) | exact And.right (And.right (And.right (And.right (And.right (And.right (And.right (And.right (And.right (by assumption))))))))) | exact And.left (And.right (And.right (And.right (And.right (And.right (And.right (And.right (And.right (And.right (And.right (by assumption))))))))))) | exact And.right (And.right (And.right (And.right (And.right (And.right (And.right (And.right (And.right (And.right (by assumption)))))))))) | exact And.left (And.right (And.right (And.right (And.right (And.right (And.right (And.right (And.right (And.right (And.right (And.right (by assumption)))))))))))) | exact And.right (And.right (And.right (And.right (And.right (And.right (And.right (And.right (And.right (And.right (And.right (by assumption))))))))))) | exact And.left (And.right (And.right (And.right (And.right (And.right (And.right (And.right (And.right (And.right (And.right (And.right (And.right (by assumption))))))))))))) | exact And.right (And.right (And.right (And.right (And.right (And.right (And.right (And.right (And.right (And.right (And.right (And.right (by assumption)))))))))))) | exact And.left (And.right (And.right (And.right (And.right (And.right (And.right (And.right (And.right (And.right (And.right (And.right (And.right (And.right (by assumption)))))))))))))) | exact And.right (And.right (And.right (And.right (And.right (And.right (And.right (And.right (And.right (And.right (And.right (And.right (And.right (by assumption)))))))))))))))
  (k_with "cj2" => (first | k_extra "cj" | exact Nat.lt_succ_of_lt (by k_extra "cj") | exact Nat.lt_succ_of_lt (Nat.lt_succ_of_lt (by k_extra "cj")) | exact Nat.lt_succ_self _))
  (k_with "om" => (first | (with_reducible assumption) | (with_reducible exact Nat.ne_of_gt (by k_extra "cj")) | (with_reducible exact Nat.ne_of_lt (by k_extra "cj")) | (with_reducible k_extra "cj2") | (with_reducible exact Nat.ne_of_lt (by k_extra "cj2")) | (with_reducible exact Nat.ne_of_gt (by k_extra "cj2")) | (with_reducible exact Ne.symm (by k_extra "cj")) | omega))
  (k_with "k_ne" => (refine neN ?_; (try dsimp only); k_extra "om"))
  trivial
section
variable {prog : Program} {w : World} {A : Around} {E : Value → Shared → Prop} {s : Shared}
/-- the inner iterator of an enumerate, over a tuple: an item -/
theorem en_inner {it l : Addr} {i : Nat} {items : Array Value} {x : Value} {Q : Value → Shared → Prop} (hit : s.heap.IsTupleIter it l i) (hl : s.heap.IsTuple l items) (hx : items[i]? = some x)
    (hQ : ∀ h', h'.IsTupleIter it l (i + 1) → Heap.SameBut it s.heap h' → Q x { s with heap := h' }) : wpAny (model prog w) A (Builtin.SmallTypes.nextOf (.ref it)) Q E s := by
  obtain ⟨oi, ei, ci, di⟩ := id hit
  obtain ⟨ol, el, _, nl, dl⟩ := hl
  unfold Builtin.SmallTypes.nextOf
  refine wpAny_bind (wpAny_callSpecial?_slot (name := Str.ofString "__next__") hit.typeIs F.slot_tuple_iterator_next (wpAny_call_entry F.slot_tuple_iterator_next hit.typeIs F.entry_tuple_iterator_next ?_ (F.args_tuple_iterator_next_1 _)))
  show wpAny _ _ (field (.ref it) 0 >>= _) _ _ s
  refine wpAny_bind (wpAny_field ei di (x := .ref l) rfl ?_)
  show wpAny _ _ (if (Value.ref l == Value.none) = true then _ else _) _ _ s
  rw [if_neg (show ¬ ((Value.ref l == Value.none) = true) from Bool.false_ne_true)]
  show wpAny _ _ (field (.ref it) 1 >>= _) _ _ s
  refine wpAny_bind (wpAny_field ei di (x := .int i 0) rfl ?_)
  show wpAny _ _ (seqItems? (.ref l) >>= _) _ _ s
  refine wpAny_bind (wpAny_seqItems el dl ?_)
  simp only [Int.toNat_natCast, hx]
  refine wpAny_bind (wpAny_setField ei di (by simp) (wpAny_pure ⟨x, rfl, wpAny_pure (hQ _ ?_ (Heap.SameBut.update ..))⟩))
  refine ⟨_, Heap.get?_update_self _ ei (Obj.isFreed_of_fields (Obj.data_mapFields di _)), (Obj.cls_mapFields ..).trans ci, ?_⟩
  rw [Obj.data_mapFields di]; simp [rawInt]
/-- at its end -/
theorem en_innerEnd {it l : Addr} {i : Nat} {items : Array Value} {Q : Value → Shared → Prop} (hh : A.handled = none) (hit : s.heap.IsTupleIter it l i) (hl : s.heap.IsTuple l items) (hx : items[i]? = none)
    (hE : ∀ h' e, Heap.ExtBut it s.heap h' → (∃ o, h'.get? e = some o ∧ o.cls = .type "StopIteration") → E (.ref e) { s with heap := h' }) : wpAny (model prog w) A (Builtin.SmallTypes.nextOf (.ref it)) Q E s := by
  obtain ⟨oi, ei, ci, di⟩ := id hit
  obtain ⟨ol, el, _, nl, dl⟩ := hl
  unfold Builtin.SmallTypes.nextOf
  refine wpAny_bind (wpAny_callSpecial?_slot (name := Str.ofString "__next__") hit.typeIs F.slot_tuple_iterator_next (wpAny_call_entry F.slot_tuple_iterator_next hit.typeIs F.entry_tuple_iterator_next ?_ (F.args_tuple_iterator_next_1 _)))
  show wpAny _ _ (field (.ref it) 0 >>= _) _ _ s
  refine wpAny_bind (wpAny_field ei di (x := .ref l) rfl ?_)
  show wpAny _ _ (if (Value.ref l == Value.none) = true then _ else _) _ _ s
  rw [if_neg (show ¬ ((Value.ref l == Value.none) = true) from Bool.false_ne_true)]
  show wpAny _ _ (field (.ref it) 1 >>= _) _ _ s
  refine wpAny_bind (wpAny_field ei di (x := .int i 0) rfl ?_)
  show wpAny _ _ (seqItems? (.ref l) >>= _) _ _ s
  refine wpAny_bind (wpAny_seqItems el dl ?_)
  simp only [Int.toNat_natCast, hx]
  refine wpAny_bind (wpAny_rule (wpAny_bind (wpAny_setField ei di (by simp) ?_)))
  show wpAny _ _ (newExc (.type "StopIteration") [] >>= _) _ _ _
  refine wpAny_bind ?_
  simp only [newExc, newTuple]
  refine wpAny_bind (wpAny_newObj_type ?_ (by size_fits))
  refine wpAny_bind (m := firstArgMember _ _) (wpAny_of_eq (a := Value.none) (by first | rfl | (simp only [firstArgMember]; rfl)) ?_)
  refine wpAny_newObj_type ?_ (by size_fits)
  simp only [raiseNew]
  refine wpAny_bind (wpAny_handled ?_)
  first | rw [show A.in1.handled = none from hh] | rw [hh]
  exact wpAny_bind (wpAny_pure (wpAny_throw (hE _ _ (((Heap.SameBut.update ..).extBut.push _).push _) ⟨_, Heap.get?_push_size _ rfl, rfl⟩)))
/-- one step of an enumerate whose inner iterator steps -/
theorem en_step {e it : Addr} {i : Nat} {x old : Value} {R : Heap → Prop} {Q : Option Value → Shared → Prop}
    (he : IsEnum s.heap e it i old) (hne : e ≠ it) (hR : ∀ h h' : Heap, R h → (∀ b o, b ≠ e → h.get? b = some o → h'.get? b = some o) → R h')
    (hn : ∀ {A : Around} {E : Value → Shared → Prop} {Q : Value → Shared → Prop}, (∀ h', R h' → Heap.SameBut it s.heap h' → Q x { s with heap := h' }) → wpAny (model prog w) A (Builtin.SmallTypes.nextOf (.ref it)) Q E s)
    (hQ : ∀ h', IsEnumOut h' e it ((i : Int) + 1) x s.heap.objs.size → R h' → h'.get? s.heap.objs.size = some { cls := .type "tuple", data := .seq #[.int i s.toks, x] } →
      (∀ b o, b ≠ e → b ≠ it → s.heap.get? b = some o → h'.get? b = some o) → Q (some (.ref s.heap.objs.size)) { s with heap := h', toks := s.toks + 1 }) :
    wpAny (model prog w) A (pyNext (.ref e)) Q E s := by
  have hT : s.TypeIs (.ref e) "enumerate" := ⟨_, he, rfl⟩
  unfold pyNext
  refine wpAny_bind (wpAny_attempt (wpAny_callSpecial?_slot (name := Str.ofString "__next__") hT F.slot_enumerate_next (wpAny_call_entry F.slot_enumerate_next hT F.entry_enumerate_next ?_ (F.args_enumerate_next_1 _))))
  obtain ⟨hp, g, d, tk, os⟩ := s
  show wpAny _ _ (field (.ref e) 2 >>= _) _ _ _
  refine wpAny_bind (wpAny_field he rfl (x := .ref it) rfl (wpAny_bind (hn fun h₁ r₁ s₁ => ?_)))
  have e₁ : IsEnum h₁ e it i old := (s₁.2 e hne).trans he
  have up₁ : ∀ b o, b ≠ it → hp.get? b = some o → h₁.get? b = some o := fun b o hb q => s₁.extBut b o hb q
  have z₁ : h₁.objs.size = hp.objs.size := s₁.1
  clear hn s₁
  show wpAny _ _ (field (.ref e) 3 >>= _) _ _ ⟨h₁, g, d, tk, os⟩
  refine wpAny_bind (wpAny_field e₁ rfl (x := rawInt i) rfl ?_)
  show wpAny _ _ (field (.ref e) 4 >>= _) _ _ ⟨h₁, g, d, tk, os⟩
  refine wpAny_bind (wpAny_field e₁ rfl (x := .none) rfl ?_)
  show wpAny _ _ (mkInt i >>= _) _ _ ⟨h₁, g, d, tk, os⟩
  refine wpAny_bind (wpAny_mkInt ?_)
  show wpAny _ _ (setField (.ref e) 3 (rawInt ((i : Int) + 1)) >>= _) _ _ ⟨h₁, g, d, tk + 1, os⟩
  refine wpAny_bind (wpAny_setField_rec e₁ (by simp) fun h₂ e₂ s₂ => ?_)
  show wpAny _ _ (setField (.ref e) 4 .none >>= _) _ _ ⟨h₂, g, d, tk + 1, os⟩
  refine wpAny_bind (wpAny_setField_rec e₂ (by simp) fun h₃ e₃ s₃ => ?_)
  have e₃ : IsEnum h₃ e it ((i : Int) + 1) old := e₃
  have s₂ : Heap.SameBut e h₁ h₂ := s₂
  have s₃ : Heap.SameBut e h₂ h₃ := s₃
  have z₃ : h₃.objs.size = hp.objs.size := by rw [s₃.1, s₂.1, z₁]
  have r₃ : R h₃ := hR _ _ (hR _ _ r₁ fun b o hb q => s₂.extBut b o hb q) fun b o hb q => s₃.extBut b o hb q
  have up₃ : ∀ b o, b ≠ e → b ≠ it → hp.get? b = some o → h₃.get? b = some o := fun b o h1 h2 q => s₃.extBut b o h1 (s₂.extBut b o h1 (up₁ b o h2 q))
  clear s₂ s₃ e₂ e₁ r₁ up₁ z₁
  show wpAny _ _ (newTuple [.int i tk, x] >>= _) _ _ ⟨h₃, g, d, tk + 1, os⟩
  refine wpAny_bind (wpAny_newTuple ?_)
  have e₄ : IsEnum (h₃.push { cls := .type "tuple", data := .seq #[.int i tk, x] }) e it ((i : Int) + 1) old := Heap.get?_push_of_some _ e₃
  have r₄ : R (h₃.push { cls := .type "tuple", data := .seq #[.int i tk, x] }) := hR _ _ r₃ fun b o _ q => Heap.get?_push_of_some _ q
  have up₄ : ∀ b o, b ≠ e → b ≠ it → hp.get? b = some o → (h₃.push { cls := .type "tuple", data := .seq #[.int i tk, x] }).get? b = some o := fun b o h1 h2 q => Heap.get?_push_of_some _ (up₃ b o h1 h2 q)
  have t₄ : (h₃.push { cls := .type "tuple", data := .seq #[.int i tk, x] }).get? hp.objs.size = some { cls := .type "tuple", data := .seq #[.int i tk, x] } := by rw [← z₃]; exact Heap.get?_push_size _ rfl
  generalize h₃.push { cls := .type "tuple", data := .seq #[.int i tk, x] } = h₄ at e₄ r₄ up₄ t₄
  have hel : e < hp.objs.size := Heap.lt_size he
  show wpAny _ _ (Builtin.SmallTypes.ownedTupleIsFree (.ref e) >>= _) _ _ ⟨h₄, g, d, tk + 1, os⟩
  rw [z₃]
  refine wpAny_bind ?_
  unfold Builtin.SmallTypes.ownedTupleIsFree
  refine wpAny_bind (wpAny_field e₄ rfl (x := .none) rfl (wpAny_pure ?_))
  simp only [if_true]
  refine wpAny_bind (wpAny_rule (wpAny_bind (wpAny_field e₄ rfl (x := old) rfl (wpAny_bind (wpAny_setField_rec e₄ (by simp) fun h₅ e₅ s₅ => ?_)))))
  replace s₅ : Heap.SameBut e h₄ h₅ := s₅
  replace e₅ : IsEnum h₅ e it ((i : Int) + 1) x := e₅
  show wpAny _ _ (Builtin.SmallTypes.ownedTupleHandOut (.ref e) (.ref hp.objs.size) >>= _) _ _ ⟨h₅, g, d, tk + 1, os⟩
  refine wpAny_bind ?_
  unfold Builtin.SmallTypes.ownedTupleHandOut
  refine wpAny_bind (wpAny_setField_rec e₅ (by simp) fun h₆ e₆ s₆ => ?_)
  replace s₆ : Heap.SameBut e h₅ h₆ := s₆
  replace e₆ : IsEnumOut h₆ e it ((i : Int) + 1) x hp.objs.size := e₆
  refine wpAny_setField_rec e₆ (by simp) fun h₇ e₇ s₇ => ?_
  replace s₇ : Heap.SameBut e h₆ h₇ := s₇
  have up : ∀ b o, b ≠ e → h₄.get? b = some o → h₇.get? b = some o := fun b o hb q => s₇.extBut b o hb (s₆.extBut b o hb (s₅.extBut b o hb q))
  exact wpAny_bind (wpAny_letGo (wpAny_pure ⟨_, rfl, wpAny_pure (hQ h₇ e₇ (hR _ _ r₄ up) (up _ _ (Nat.ne_of_gt hel) t₄) fun b o h1 h2 q => up b o h1 (up₄ b o h1 h2 q))⟩))
theorem en_stop {e it : Addr} {i : Nat} {old : Value} {Q : Option Value → Shared → Prop} (he : IsEnum s.heap e it i old)
    (hn : ∀ {A : Around} {E : Value → Shared → Prop} {Q : Value → Shared → Prop}, A.handled = none → (∀ h' e, Heap.ExtBut it s.heap h' → (∃ o, h'.get? e = some o ∧ o.cls = .type "StopIteration") → E (.ref e) { s with heap := h' }) → wpAny (model prog w) A (Builtin.SmallTypes.nextOf (.ref it)) Q E s)
    (hh : A.handled = none) (hQ : ∀ h', Heap.ExtBut it s.heap h' → Q none { s with heap := h' }) : wpAny (model prog w) A (pyNext (.ref e)) Q E s := by
  have hT : s.TypeIs (.ref e) "enumerate" := ⟨_, he, rfl⟩
  unfold pyNext
  refine wpAny_bind (wpAny_attempt (wpAny_callSpecial?_slot (name := Str.ofString "__next__") hT F.slot_enumerate_next (wpAny_call_entry F.slot_enumerate_next hT F.entry_enumerate_next ?_ (F.args_enumerate_next_1 _))))
  show wpAny _ _ (field (.ref e) 2 >>= _) _ _ _
  refine wpAny_bind (wpAny_field he rfl (x := .ref it) rfl (wpAny_bind (hn hh fun h' e' k ⟨o, ho, hc⟩ => ?_)))
  exact wpAny_bind (wpAny_isInstance (T := "StopIteration") (b := true) ⟨o, ho, hc⟩ isSubtype_stop (wpAny_pure (hQ _ k)))
theorem en_meets (l : Addr) (items : Array Value) (n : Nat) (dct : Option Addr) (sl : Array (Option Value)) :
    Meets (Builtin.«enumerate.__new__» ⟨[.type "enumerate", .ref l], []⟩) (fun _ R s => s.heap.get? l = some { cls := .type "tuple", dict := dct, data := .seq items n, slots := sl } ∧
      R (.ok (.ret (.ref (s.heap.push { cls := .type "tuple_iterator", data := .fields #[.ref l, .int 0 0] }).objs.size)))
        { s with heap := (s.heap.push { cls := .type "tuple_iterator", data := .fields #[.ref l, .int 0 0] }).push { cls := .type "enumerate", data := .fields #[.none, .bool false, .ref s.heap.objs.size, rawInt 0, .none, .none] } }) :=
  .of_wp fun prog w A R s h => by
    obtain ⟨hp, g, d, tk, os⟩ := s; obtain ⟨hl, h⟩ := h
    have hsub := sub_enumerate
    have hL : Heap.IsTuple (Shared.heap ⟨hp, g, d, tk, os⟩) l items := ⟨_, hl, rfl, n, rfl⟩
    wp_walk using wpAny_loadPart' hl
    refine wpAny_stack_any fun st => wpAny_pure ?_
    split
    · rename_i c _ _ _ _ _
      cases (c == Value.type "enumerate") <;>
      · wp_walk using wpAny_loadPart' hl, wpAny_pyIter_tuple hL
        exact ⟨_, rfl, h⟩
    · wp_walk using wpAny_loadPart' hl, wpAny_pyIter_tuple hL
      exact ⟨_, rfl, h⟩
theorem en_call {l : Addr} {items : Array Value} {Q : Value → Shared → Prop} (hL : s.heap.IsTuple l items)
    (h : ∀ h', IsEnum h' (s.heap.objs.size + 1) s.heap.objs.size 0 .none → h'.IsTupleIter s.heap.objs.size l 0 → (∀ b o, s.heap.get? b = some o → h'.get? b = some o) → Q (.ref (s.heap.objs.size + 1)) { s with heap := h' }) :
    wpAny (model prog w) A (call (.type "enumerate") [.ref l]) Q E s := by
  obtain ⟨⟨c, dct, dt, sl⟩, hl, hc, n, hd⟩ := hL
  replace hc : c = .type "tuple" := hc
  replace hd : dt = .seq items n := hd
  subst hc hd
  refine callType_new F.called_enumerate (by decide) (F.typeCall_enumerate_1 _) (F.newCall_enumerate_1 _) (fun obj => F.args_object_init_2 obj _) F.entry_enumerate_new (en_meets l items n dct sl) ⟨hl, ?_⟩
  have hz : (s.heap.push { cls := .type "tuple_iterator", data := .fields #[.ref l, .int 0 0] }).objs.size = s.heap.objs.size + 1 := Heap.size_push ..
  show _ ∧ _
  rw [hz]
  have he : IsEnum ((s.heap.push { cls := .type "tuple_iterator", data := .fields #[.ref l, .int 0 0] }).push { cls := .type "enumerate", data := .fields #[.none, .bool false, .ref s.heap.objs.size, rawInt 0, .none, .none] }) (s.heap.objs.size + 1) s.heap.objs.size 0 .none := by
    rw [← hz]; exact Heap.get?_push_size _ rfl
  exact ⟨⟨_, he, rfl⟩, h _ he ⟨_, Heap.get?_push_of_some _ (Heap.get?_push_size _ rfl), rfl, rfl⟩ fun b o x => Heap.get?_push_of_some _ (Heap.get?_push_of_some _ x)⟩
/-- an enumerate over a tuple, walked -/
theorem en_walks (hh : A.handled = none) (e it l : Addr) (hei : e ≠ it) (hle : l ≠ e) (hli : l ≠ it) (items : Array Value) :
    WalksT prog w A e [e, it, l] [e, it] items.size (fun i vals => ∃ t x, items[i]? = some x ∧ vals = #[.int i t, x])
      (fun i h => (∃ old, IsEnum h e it i old) ∧ h.IsTupleIter it l i ∧ h.IsTuple l items)
      (fun i T h => (∃ x, IsEnumOut h e it ((i : Int) + 1) x T) ∧ h.IsTupleIter it l (i + 1) ∧ h.IsTuple l items ∧ T ≠ e ∧ T ≠ it) where
  sub := fun b hb => by simp at hb ⊢; rcases hb with h | h <;> simp [h]
  frame := fun i h h' hst hk => by
    obtain ⟨⟨old, he⟩, ⟨oi, ei, ri⟩, ⟨ol, el, rl⟩⟩ := hst
    exact ⟨⟨old, hk e (by simp) _ he⟩, ⟨oi, hk it (by simp) _ ei, ri⟩, ⟨ol, hk l (by simp) _ el, rl⟩⟩
  item := fun i s Q E hi hst hQ => by
    obtain ⟨⟨old, he⟩, hit, hl⟩ := hst
    have hx : items[i]? = some items[i] := Array.getElem?_eq_getElem hi
    refine en_step (R := fun h => h.IsTupleIter it l (i + 1) ∧ h.IsTuple l items) he hei (fun h h' r k => ?_) (fun {A E Q} q => en_inner hit hl hx fun h' r k => q h' ⟨r, hl.extBut k.extBut hli⟩ k) fun h' ho r hT hk => ?_
    · obtain ⟨⟨oi, ei, ri⟩, ⟨ol, el, rl⟩⟩ := r
      exact ⟨⟨oi, k it _ (Ne.symm hei) ei, ri⟩, ⟨ol, k l _ hle el, rl⟩⟩
    · have helt : e < s.heap.objs.size := Heap.lt_size he
      have hilt : it < s.heap.objs.size := by obtain ⟨_, x, _⟩ := hit; exact Heap.lt_size x
      exact hQ s.heap.objs.size #[.int i s.toks, items[i]] h' (s.toks + 1) ⟨_, _, hx, rfl⟩ (Nat.le_refl _) ⟨_, hT, rfl, _, rfl⟩ ⟨⟨_, ho⟩, r.1, r.2, Nat.ne_of_gt helt, Nat.ne_of_gt hilt⟩ fun b o hb x => hk b o (fun q => hb (by simp [q])) (fun q => hb (by simp [q])) x
  go := fun elts k pos i T s Q E hm hQ => by
    obtain ⟨⟨x, ho⟩, ⟨oi, ei, ri⟩, ⟨ol, el, rl⟩, hTe, hTi⟩ := hm
    refine wpAny_letOwnedTupleGo_enum ho fun h' he' hs' => hQ h' ⟨⟨x, by simpa using he'⟩, ⟨oi, (hs'.2 it hei.symm).trans ei, ri⟩, ⟨ol, (hs'.2 l hle).trans el, rl⟩⟩ fun b o hb y => ?_
    exact (hs'.2 b fun q => hb (by simp [q])).trans y
  apart := fun i T h hm hT => by
    obtain ⟨_, _, _, hTe, hTi⟩ := hm
    simp at hT
    rcases hT with h | h
    · exact hTe h
    · exact hTi h
  done := fun s Q E hst hQ => by
    obtain ⟨⟨old, he⟩, hit, hl⟩ := hst
    exact en_stop he (fun {A E Q} hh q => en_innerEnd hh hit hl (Array.getElem?_eq_none (Nat.le_refl _)) q) hh fun h' hx => hQ h' s.toks fun b o hb y => hx b o (fun q => hb (by simp [q])) y
  self := fun i s Q E hst hQ => by
    obtain ⟨⟨old, he⟩, _, _⟩ := hst
    exact wpAny_pyIter_enum he hQ
end

end

section
open PyProof.Rows.LCg
theorem w_EN2 : True := by
  k_with_none
  (k_with "eval Name" => (k_here; k_dflt (refine' nameX_L (by k_asm) (by rfl) ?_ (by rfl) (by rfl); k_whole)))
  (k_with "cj" => (first | assumption | exact And.left (by assumption) | exact And.left (And.right (by assumption)) | exact And.right (by assumption) | exact And.left (And.right (And.right (by assumption))) | exact And.right (And.right (by assumption)) | exact And.left (And.right (And.right (And.right (by assumption)))) | exact And.right (And.right (And.right (by assumption))) | exact And.left (And.right (And.right (And.right (And.right (by assumption))))) | exact And.right (And.right (And.right (And.right (by assumption)))) | exact And.left (And.right (And.right (And.right (And.right (And.right (by assumption)))))) | exact And.right (And.right (And.right (And.right (And.right (by assumption))))) | exact And.left (And.right (And.right (And.right (And.right (And.right (And.right (by assumption))))))) | exact And.right (And.right (And.right (And.right (And.right (And.right (by assumption)))))) | exact And.left (And.right (And.right (And.right (And.right (And.right (And.right (And.right (by assumption)))))))) | exact And.right (And.right (And.right (And.right (And.right (And.right (And.right (by assumption))))))) | exact And.left (And.right (And.right (And.right (And.right (And.right (And.right (And.right (And.right (by assumption))))))))) | exact And.right (And.right (And.right (And.right (And.right (And.right (And.right (And.right (by assumption)))))))) | exact And.left (And.right (And.right (And.right (And.right (And.right (And.right (And.right (And.right (And.right (by assumption)))))))))) | exact And.right (And.right (And.right (And.right (And.right (And.right (And.right (And.right (And.right (by assumption))))))))) | exact And.left (And.right (And.right (And.right (And.right (And.right (And.right (And.right (And.right (And.right (And.right (by assumption))))))))))) | exact And.right (And.right (And.right (And.right (And.right (And.right (And.right (And.right (And.right (And.right (by assumption)))))))))) | exact And.left (And.right (And.right (And.right (And.right (And.right (And.right (And.right (And.right (And.right (And.right (And.right (by assumption)))))))))))) | exact And.right (And.right (And.right (And.right (And.right (And.right (And.right (And.right (And.right (And.right (And.right (by assumption))))))))))) | exact And.left (And.right (And.right (And.right (And.right (And.right (And.right (And.right (And.right (And.right (And.right (And.right (And.right (by assumption))))))))))))) | exact And.right (And.right (And.right (And.right (And.right (And.right (And.right (And.right (And.right (And.right (And.right (And.right (by assumption)))))))))))) | exact And.left (And.right (And.right (And.right (And.right (And.right (And.right (And.right (And.right (And.right (And.right (And.right (And.right (And.right (by assumption)))))))))))))) | exact And.right (And.right (And.right (And.right (And.right (And.right (And.right (And.right (And.right (And.right (And.right (And.right (And.right (by assumption)))))))))))))))
  (k_with "cj2" => (first | k_extra "cj" | exact Nat.lt_succ_of_lt (by k_extra "cj") | exact Nat.lt_succ_of_lt (Nat.lt_succ_of_lt (by k_extra "cj")) | exact Nat.lt_succ_self _))
  (k_with "om" => (first | (with_reducible assumption) | (with_reducible exact Nat.ne_of_gt (by k_extra "cj")) | (with_reducible exact Nat.ne_of_lt (by k_extra "cj")) | (with_reducible k_extra "cj2") | (with_reducible exact Nat.ne_of_lt (by k_extra "cj2")) | (with_reducible exact Nat.ne_of_gt (by k_extra "cj2")) | (with_reducible exact Ne.symm (by k_extra "cj")) | omega))
  (k_with "k_ne" => (refine neN ?_; (try dsimp only); k_extra "om"))
  trivial
section
variable {prog : Program} {w : World} {A : Around} {E : Value → Shared → Prop} {s : Shared} {h₀ : Heap} {L : Addr} {m : Str → Option Value} {env : Env}
/-- a turn of a comprehension over an enumerate: the inner iterator `it` stays an entry of the ledger -/
noncomputable def EnTurn (prog : Program) (w : World) (A : Around) (h₀ : Heap) (L : Addr) (m : Str → Option Value) (env : Env) (elt : PySem.Expr) (a b : Str) (scope : Scope) (cl : List (Str × Addr)) (n : Nat) (Pt : Nat → Array Value → Prop)
    (J : Nat → List Value → List (Addr × Obj) → Prop) (s : Shared) : Prop :=
  ∀ i v₁ v₂ ys nx I oI it oit C oC D m₂ h tk (E' : Value → Shared → Prop), i < n → Pt i #[v₁, v₂] → J i ys nx → NsObj oC m₂ → m₂ a = some v₁ → m₂ b = some v₂ → Fr h₀ L h m → News h₀ L h ((I, oI) :: (C, oC) :: (D, lst ys) :: (it, oit) :: nx) →
    Off3 I C D ((it, oit) :: nx) → ((@Ne Nat I C) ∧ (@Ne Nat I D) ∧ (@Ne Nat C D)) → (∀ p ∈ nx, p.1 ≠ it) →
    wpAny (model prog w) A (eval elt (compEnvC scope cl C env)) (CompEnd h₀ L m { s with heap := h, toks := tk } I oI C oC D (lst ys) (KcpAt it oit) (fun y nx' => ∃ nx₂, (∀ p ∈ nx₂, p ∈ nx' ∧ p.1 ≠ it) ∧ J (i + 1) (ys ++ [y]) nx₂)) E' { s with heap := h, toks := tk }
theorem en_block {elt iter : PySem.Expr} {a b : Str} {pa pb tp : Pos} {kk : Nat} {scope : Scope} {cl : List (Str × Addr)} {pos : Pos} {e it l : Addr} {n : Nat} {Pt : Nat → Array Value → Prop} {St : Nat → Heap → Prop} {Mid : Nat → Addr → Heap → Prop}
    {news : List (Addr × Obj)} {J : Nat → List Value → List (Addr × Obj) → Prop} {RR : Value → Addr → Result → Shared → Prop}
    (W : WalksT prog w A e [e, it, l] [e, it] n Pt St Mid) (hPt : ∀ i vals, Pt i vals → ∃ v₁ v₂, vals = #[v₁, v₂]) (hSo : ∀ i h, St i h → (∃ o, h.get? e = some o) ∧ (∃ o, h.get? it = some o) ∧ ∃ o, h.get? l = some o)
    (hSt : ∀ i ys nx h h', St i h → h'.get? e = h.get? e → h'.get? it = h.get? it → (∀ b o, h₀.get? b = some o → h'.get? b = some o) → News h₀ L h' nx → J i ys nx → St i h')
    (hMs : ∀ i T h, Mid i T h → T ∉ [e, it])
    (hz : n ≤ 100000) (hh : A.handled = none) (hei : e ≠ it) (hle : l ≠ e) (hli : l ≠ it) (he₀ : h₀.get? e = none) (hi₀ : h₀.get? it = none) (hLe : L ≠ e) (hLi : L ≠ it) (hst : St 0 s.heap)
    (hcell : ∀ y ∈ scope.names, y.2 ≠ .cell) (hkind : scope.kind = .function) (hxa : scope.names.lookup a = some .local) (hxb : scope.names.lookup b = some .local) (hab : ¬ a = b)
    (F : Fr h₀ L s.heap m) (N : News h₀ L s.heap news) (off : ∀ p ∈ news, p.1 ≠ e ∧ p.1 ≠ it) (hJ : J 0 [] news) (hLl : L ≠ l)
    (turn : EnTurn prog w A h₀ L m env elt a b scope cl n Pt J s)
    (hRR : ∀ D C h tk m' ys nx, Fr h₀ L h m → News h₀ L h ((D, lst ys) :: nx) → Off1 D nx → h.Ns C m' → h₀.get? C = none → h₀.get? D = none → C ≠ L → D ≠ L → C ≠ D → (∀ p ∈ nx, p.1 ≠ C) → J n ys nx → RR (.ref D) C (.ok .next) { s with heap := h, toks := tk }) :
    wpAny (model prog w) A (newList []) (fun acc s₃ => wpAny (model prog w) A (newFunctionEnv scope env.globals cl [] env.qual none .none (some env)) (fun cenv s₄ =>
      codeAny (model prog w) A (.compStart (.ListComp elt [⟨.Tuple [.Name a pa, .Name b pb] kk tp, iter, [], 0⟩] scope pos) 0 (.ref e) acc { cenv with scope := relabel scope env }) (RR acc cenv.locals) s₄) E s₃) E s := by
  refine wpAny_newObj_type (wpAny_newFunctionEnv hcell (by intro y hy; simp at hy) (fun h₁ ns₁ sb₁ => ?_) hkind)
  dsimp only at ns₁ sb₁ ⊢
  generalize hG : s.heap.push { cls := .type "list", dict := none, data := .seq ([] : List Value).toArray } = G at ns₁ sb₁ ⊢
  have hzG : G.objs.size = s.heap.objs.size + 1 := by rw [← hG, Heap.size_push]
  have upG : ∀ b o, s.heap.get? b = some o → G.get? b = some o := fun b o q => hG ▸ Heap.get?_push_of_some _ q
  have ltOf : ∀ b o, s.heap.get? b = some o → b ≠ G.objs.size ∧ b ≠ s.heap.objs.size := fun b o q => by
    have := Heap.lt_size q
    exact ⟨by rw [hzG]; exact Nat.ne_of_lt (Nat.lt_succ_of_lt this), Nat.ne_of_lt this⟩
  have up₁ : ∀ b o, s.heap.get? b = some o → h₁.get? b = some o := fun b o q => sb₁.extBut b o (ltOf b o q).1 (Heap.get?_push_of_some _ (upG b o q))
  have hDC : s.heap.objs.size ≠ G.objs.size := by rw [hzG]; exact Nat.ne_of_lt (Nat.lt_succ_self _)
  have hacc : h₁.get? s.heap.objs.size = some (lst []) := sb₁.extBut _ _ hDC (Heap.get?_push_of_some _ (hG ▸ Heap.get?_push_size _ rfl))
  have none₀ : ∀ b, s.heap.objs.size ≤ b → h₀.get? b = none := fun b hb => by
    cases q : h₀.get? b with
    | none => rfl
    | some o => exact absurd (Heap.lt_size (F.keep b o q)) (Nat.not_lt.mpr hb)
  have hD₀ := none₀ _ (Nat.le_refl _)
  have hC₀ : h₀.get? G.objs.size = none := none₀ _ (by rw [hzG]; exact Nat.le_succ _)
  obtain ⟨⟨oe₀, ee₀⟩, ⟨oi₀, ei₀⟩, ⟨ol₀, el₀⟩⟩ := hSo _ _ hst
  have hLlt : L < s.heap.objs.size := F.ns.lt
  have hDL : s.heap.objs.size ≠ L := Ne.symm (Nat.ne_of_lt hLlt)
  have hCL : G.objs.size ≠ L := by rw [hzG]; exact Ne.symm (Nat.ne_of_lt (Nat.lt_succ_of_lt hLlt))
  have eD := (ltOf _ _ ee₀).2
  have eC := (ltOf _ _ ee₀).1
  have iD := (ltOf _ _ ei₀).2
  have iC := (ltOf _ _ ei₀).1
  have lD := (ltOf _ _ el₀).2
  have lC := (ltOf _ _ el₀).1
  have hst₁ : St 0 h₁ := W.frame _ _ _ hst fun b _ o q => up₁ b o q
  have loop : ∀ s₃ : Shared, s₃ = { s with heap := h₁, toks := s.toks + ([] : List (Str × Value)).length } →
      codeAny (model prog w) A (.compLoop (.ListComp elt [⟨.Tuple [.Name a pa, .Name b pb] kk tp, iter, [], 0⟩] scope pos) 0 (.ref e) (.ref s.heap.objs.size) (compEnvC scope cl G.objs.size env)) (RR (.ref s.heap.objs.size) G.objs.size) s₃ := by
    rintro s₃ rfl
    refine kcp_loop (fun k s' => ∃ h' tk i ys m' nx, s' = { s with heap := h', toks := tk } ∧ i ≤ n ∧ k = n + 1 - i ∧ ys.length = i ∧ St i h' ∧ Fr h₀ L h' m ∧ h'.Ns G.objs.size m' ∧ News h₀ L h' ((s.heap.objs.size, lst ys) :: nx) ∧
        (∀ p ∈ nx, p.1 ≠ e ∧ p.1 ≠ it ∧ p.1 ≠ G.objs.size ∧ p.1 ≠ s.heap.objs.size) ∧ J i ys nx) ?_ (n + 1)
      ⟨h₁, _, 0, [], _, news, rfl, Nat.zero_le _, rfl, rfl, hst₁, F.keeps up₁, ns₁, fun p hp => ?_, fun p hp => ⟨(off p hp).1, (off p hp).2, (ltOf _ _ (N p hp).1).1, (ltOf _ _ (N p hp).1).2⟩, hJ⟩
    · rintro k s' ⟨h', tk, i, ys, m', nx, rfl, hi, rfl, hyl, st', F', hn', N', off', J'⟩
      by_cases hlt : i < n
      · refine W.item i _ _ _ hlt st' fun T vals h₂ tk₂ hpt hT2 hT hM hk₂ => ?_
        obtain ⟨v₁, v₂, rfl⟩ := hPt _ _ hpt
        have hTw := hMs _ _ _ hM
        refine W.go [.Name a pa, .Name b pb] kk tp i T _ _ _ hM fun h₃ st₃ hk₃ => ?_
        have hT₃ : h₃.IsTuple T #[v₁, v₂] := by
          obtain ⟨oT, eT, rT⟩ := hT
          exact ⟨oT, hk₃ _ _ hTw eT, rT⟩
        have up₃ : ∀ c o, c ≠ e → c ≠ it → h'.get? c = some o → h₃.get? c = some o := fun c o h1 h2 q => hk₃ c o (by simp [h1, h2]) (hk₂ c o (by simp [h1, h2]) q)
        refine kcp_assign (env := compEnvC scope cl G.objs.size env) hh hT₃ (lookup_relabel_local hxa) (lookup_relabel_local hxb) (by simp [compEnvC, relabel, hkind]) (hn'.at' fun o q => up₃ _ o (Ne.symm eC) (Ne.symm iC) q) fun h₄ tk₄ hn₄ hs₄ => ?_
        have up₄ : ∀ c o, c ≠ e → c ≠ it → c ≠ G.objs.size → h'.get? c = some o → h₄.get? c = some o := fun c o h1 h2 h3 q => hs₄ c o h3 (up₃ c o h1 h2 q)
        have st₄ : St (i + 1) h₄ := W.frame _ _ _ st₃ fun c hc o q => hs₄ c o (by
          simp at hc
          rcases hc with rfl | rfl | rfl
          · exact eC
          · exact iC
          · exact lC) q
        obtain ⟨⟨oe, ee⟩, ⟨oi, ei⟩, ⟨ol, el⟩⟩ := hSo _ _ st₄
        obtain ⟨oC, heC, hoC⟩ := ns_obj hn₄
        have F₄ : Fr h₀ L h₄ m := ⟨F'.ns.at' fun o q => up₄ _ o hLe hLi (Ne.symm hCL) q, fun c o q => up₄ c o (fun z => by rw [z, he₀] at q; cases q) (fun z => by rw [z, hi₀] at q; cases q) (fun z => by rw [z, hC₀] at q; cases q) (F'.keep c o q), F'.above⟩
        have N₄ : News h₀ L h₄ ((e, oe) :: (G.objs.size, oC) :: (s.heap.objs.size, lst ys) :: (it, oi) :: nx) := fun p hp => by
          rcases List.mem_cons.mp hp with rfl | hp
          · exact ⟨ee, Ne.symm hLe, he₀⟩
          rcases List.mem_cons.mp hp with rfl | hp
          · exact ⟨heC, hCL, hC₀⟩
          rcases List.mem_cons.mp hp with rfl | hp
          · exact ⟨up₄ _ _ (Ne.symm eD) (Ne.symm iD) hDC (N' _ (.head _)).1, hDL, hD₀⟩
          rcases List.mem_cons.mp hp with rfl | hp
          · exact ⟨ei, Ne.symm hLi, hi₀⟩
          · have z := N' p (.tail _ hp)
            have o4 := off' p hp
            exact ⟨up₄ _ _ o4.1 o4.2.1 o4.2.2.1 z.1, z.2⟩
        have O₄ : Off3 e G.objs.size s.heap.objs.size ((it, oi) :: nx) := Off3.of fun p hp => by
          rcases List.mem_cons.mp hp with rfl | hp
          · exact ⟨Ne.symm hei, iC, iD⟩
          · have o4 := off' p hp
            exact ⟨o4.1, o4.2.2.1, o4.2.2.2⟩
        refine wpAny_mono (turn i v₁ v₂ ys nx e oe it oi G.objs.size oC s.heap.objs.size _ h₄ _ _ hlt hpt J' hoC (by simp [hab]) (by simp) F₄ N₄ O₄ ⟨eC, eD, Ne.symm hDC⟩ fun p hp => (off' p hp).2.1) (fun y s₅ h₅ => ?_) fun _ _ z => z
        obtain ⟨h₅, tk₅, nx₅, rfl, F₅, N₅, off₅, hS₅, nx₂, hsub, J₅⟩ := h₅
        have zI := (N₅ (e, oe) (.head _)).1
        have zC := (N₅ (G.objs.size, oC) (.tail _ (.head _))).1
        have zD := (N₅ (s.heap.objs.size, lst ys) (.tail _ (.tail _ (.head _)))).1
        have zi : h₅.get? it = some oi := (N₅ (it, oi) (.tail _ (.tail _ (.tail _ hS₅.mem)))).1
        have off5 := off₅.mem
        have N₅' : News h₀ L h₅ nx₂ := fun p hp => N₅ p (.tail _ (.tail _ (.tail _ (hsub p hp).1)))
        have st₅ : St (i + 1) h₅ := hSt (i + 1) _ _ _ _ st₄ (zI.trans ee.symm) (zi.trans ei.symm) F₅.keep N₅' J₅
        refine append_at (hsz := by show ys.toArray.size ≤ sizeLine; rw [List.size_toArray, hyl, sizeLine_eq]; omega) zD fun h₆ hs₆ hD₆ => ?_
        have up₆ : ∀ c o, c ≠ s.heap.objs.size → h₅.get? c = some o → h₆.get? c = some o := fun c o h1 q => hs₆.extBut c o h1 q
        refine ⟨n + 1 - (i + 1), by omega, h₆, tk₅, i + 1, ys ++ [y], _, nx₂, rfl, hlt, rfl, by rw [List.length_append, List.length_singleton, hyl], W.frame _ _ _ st₅ fun c hc o q => up₆ c o (by
            simp at hc
            rcases hc with rfl | rfl | rfl
            · exact eD
            · exact iD
            · exact lD) q, F₅.change hs₆ hDL hD₀, (hoC.ns zC).sameBut hs₆ (Ne.symm hDC), fun p hp => ?_, fun p hp => ?_, J₅⟩
        · rcases List.mem_cons.mp hp with rfl | hp
          · exact ⟨hD₆.trans (congrArg some (lst_snoc ys y)), hDL, hD₀⟩
          · exact ⟨up₆ _ _ (off5 p (hsub p hp).1).2.2 (N₅' p hp).1, (N₅' p hp).2⟩
        · have o5 := off5 p (hsub p hp).1
          exact ⟨o5.1, (hsub p hp).2, o5.2.1, o5.2.2⟩
      · have hin : i = n := by omega
        subst hin
        refine W.done _ _ _ st' fun h₂ tk₂ hk₂ => ?_
        have up₂ : ∀ c o, c ≠ e → c ≠ it → h'.get? c = some o → h₂.get? c = some o := fun c o h1 h2 q => hk₂ c o (by simp [h1, h2]) q
        exact hRR _ _ h₂ tk₂ _ ys nx ⟨F'.ns.at' fun o q => up₂ _ o hLe hLi q, fun c o q => up₂ c o (fun z => by rw [z, he₀] at q; cases q) (fun z => by rw [z, hi₀] at q; cases q) (F'.keep c o q), F'.above⟩
          (fun p hp => by
            have z := N' p hp
            refine ⟨up₂ _ _ ?_ ?_ z.1, z.2⟩
            · rcases List.mem_cons.mp hp with rfl | hp
              · exact Ne.symm eD
              · exact (off' p hp).1
            · rcases List.mem_cons.mp hp with rfl | hp
              · exact Ne.symm iD
              · exact (off' p hp).2.1)
          (Off3.one (I := e) (C := G.objs.size) (Off3.of fun p hp => ⟨(off' p hp).1, (off' p hp).2.2.1, (off' p hp).2.2.2⟩)) (hn'.at' fun o q => up₂ _ o (Ne.symm eC) (Ne.symm iC) q) hC₀ hD₀ hCL hDL (Ne.symm hDC) (fun p hp => (off' p hp).2.2.1) J'
    · rcases List.mem_cons.mp hp with rfl | hp
      · exact ⟨hacc, hDL, hD₀⟩
      · exact ⟨up₁ _ _ (N p hp).1, (N p hp).2⟩
  exact codeAny_compStart_list (loop _ rfl) (W.self 0 _ _ _ hst₁ (loop _ rfl))
end

end

section
open PyProof.Rows.LCg
theorem w_EN3 : True := by
  k_with_none
  (k_with "eval Name" => (k_here; k_dflt (refine' nameX_L (by k_asm) (by rfl) ?_ (by rfl) (by rfl); k_whole)))
  (k_with "cj" => (first | assumption | exact And.left (by assumption) | exact And.left (And.right (by assumption)) | exact And.right (by assumption) | exact And.left (And.right (And.right (by assumption))) | exact And.right (And.right (by assumption)) | exact And.left (And.right (And.right (And.right (by assumption)))) | exact And.right (And.right (And.right (by assumption))) | exact And.left (And.right (And.right (And.right (And.right (by assumption))))) | exact And.right (And.right (And.right (And.right (by assumption)))) | exact And.left (And.right (And.right (And.right (And.right (And.right (by assumption)))))) | exact And.right (And.right (And.right (And.right (And.right (by assumption))))) | exact And.left (And.right (And.right (And.right (And.right (And.right (And.right (by assumption))))))) | exact And.right (And.right (And.right (And.right (And.right (And.right (by assumption)))))) | exact And.left (And.right (And.right (And.right (And.right (And.right (And.right (And.right (by assumption)))))))) | exact And.right (And.right (And.right (And.right (And.right (And.right (And.right (by assumption))))))) | exact And.left (And.right (And.right (And.right (And.right (And.right (And.right (And.right (And.right (by assumption))))))))) | exact And.right (And.right (And.right (And.right (And.right (And.right (And.right (And.right (by assumption)))))))) | exact And.left (And.right (And.right (And.right (And.right (And.right (And.right (And.right (And.right (And.right (by assumption)))))))))) | exact And.right (And.right (And.right (And.right (And.right (And.right (And.right (And.right (And.right (by assumption))))))))) | exact And.left (And.right (And.right (And.right (And.right (And.right (And.right (And.right (And.right (And.right (And.right (by assumption))))))))))) | exact And.right (And.right (And.right (And.right (And.right (And.right (And.right (And.right (And.right (And.right (by assumption)))))))))) | exact And.left (And.right (And.right (And.right (And.right (And.right (And.right (And.right (And.right (And.right (And.right (And.right (by assumption)))))))))))) | exact And.right (And.right (And.right (And.right (And.right (And.right (And.right (And.right (And.right (And.right (And.right (by assumption))))))))))) | exact And.left (And.right (And.right (And.right (And.right (And.right (And.right (And.right (And.right (And.right (And.right (And.right (And.right (by assumption))))))))))))) | exact And.right (And.right (And.right (And.right (And.right (And.right (And.right (And.right (And.right (And.right (And.right (And.right (by assumption)))))))))))) | exact And.left (And.right (And.right (And.right (And.right (And.right (And.right (And.right (And.right (And.right (And.right (And.right (And.right (And.right (by assumption)))))))))))))) | exact And.right (And.right (And.right (And.right (And.right (And.right (And.right (And.right (And.right (And.right (And.right (And.right (And.right (by assumption)))))))))))))))
  (k_with "cj2" => (first | k_extra "cj" | exact Nat.lt_succ_of_lt (by k_extra "cj") | exact Nat.lt_succ_of_lt (Nat.lt_succ_of_lt (by k_extra "cj")) | exact Nat.lt_succ_self _))
  (k_with "om" => (first | (with_reducible assumption) | (with_reducible exact Nat.ne_of_gt (by k_extra "cj")) | (with_reducible exact Nat.ne_of_lt (by k_extra "cj")) | (with_reducible k_extra "cj2") | (with_reducible exact Nat.ne_of_lt (by k_extra "cj2")) | (with_reducible exact Nat.ne_of_gt (by k_extra "cj2")) | (with_reducible exact Ne.symm (by k_extra "cj")) | omega))
  (k_with "k_ne" => (refine neN ?_; (try dsimp only); k_extra "om"))
  trivial
section
variable {prog : Program} {w : World} {A : Around} {E : Value → Shared → Prop} {s : Shared} {h₀ : Heap} {L : Addr} {m : Str → Option Value} {env : Env}
structure EnWalk (prog : Program) (w : World) (A : Around) (h₀ : Heap) (L : Addr) (e it l : Addr) (n : Nat) (Pt : Nat → Array Value → Prop) (St : Nat → Heap → Prop) (Mid : Nat → Addr → Heap → Prop) (J : Nat → List Value → List (Addr × Obj) → Prop) : Prop where
  W : WalksT prog w A e [e, it, l] [e, it] n Pt St Mid
  pt : ∀ i vals, Pt i vals → ∃ v₁ v₂, vals = #[v₁, v₂]
  so : ∀ i h, St i h → (∃ o, h.get? e = some o) ∧ (∃ o, h.get? it = some o) ∧ ∃ o, h.get? l = some o
  st : ∀ i ys nx h h', St i h → h'.get? e = h.get? e → h'.get? it = h.get? it → (∀ b o, h₀.get? b = some o → h'.get? b = some o) → News h₀ L h' nx → J i ys nx → St i h'
  md : ∀ i T h, Mid i T h → T ∉ [e, it]
  hz : n ≤ 100000
  hei : e ≠ it
  hle : l ≠ e
  hli : l ≠ it
  he₀ : h₀.get? e = none
  hi₀ : h₀.get? it = none
  hLe : L ≠ e
  hLi : L ≠ it
  hLl : L ≠ l
noncomputable def EnSrc (prog : Program) (w : World) (A : Around) (h₀ : Heap) (L : Addr) (m : Str → Option Value) (env : Env) (elt : PySem.Expr) (a b : Str) (scope : Scope) (cl : List (Str × Addr)) (Fin : Shared → List Value → List (Addr × Obj) → Prop) (xv : Value) (s₁ : Shared) : Prop :=
  ∃ e it l n Pt St Mid news J, xv = .ref e ∧ A.handled = none ∧ Fr h₀ L s₁.heap m ∧ News h₀ L s₁.heap news ∧ EnWalk prog w A h₀ L e it l n Pt St Mid J ∧ St 0 s₁.heap ∧ (∀ p ∈ news, p.1 ≠ e ∧ p.1 ≠ it) ∧ J 0 [] news ∧
    EnTurn prog w A h₀ L m env elt a b scope cl n Pt J s₁ ∧ ∀ g ys nx, J n ys nx → Fin { s₁ with heap := g } ys nx
theorem en_Assign {elt iter : PySem.Expr} {a b y : Str} {pa pb tp py : Pos} {kk : Nat} {scope : Scope} {cl : List (Str × Addr)} {pos spos : Pos} {Q : Flow → Shared → Prop} (F₀ : Fr h₀ L s.heap m) (hLe : env.locals = L)
    (hsw : swapsWith (.ListComp elt [⟨.Tuple [.Name a pa, .Name b pb] kk tp, iter, [], 0⟩] scope pos) (some (.Name y py)) spos.line env = pure true)
    (hclos : closureFor scope env = pure cl) (hcell : ∀ z ∈ scope.names, z.2 ≠ .cell) (hkind : scope.kind = .function)
    (hnames : ∀ z ∈ scope.names, z.2 = .local → scope.names.lookup z.1 = some .local) (hxa : scope.names.lookup a = some .local) (hxb : scope.names.lookup b = some .local) (hab : ¬ a = b)
    (hy : env.kindOf y = some .local) (hp : (env.scope.kind == .class || (env.scope.kind == .module && env.locals != env.globals)) = false)
    (h : wpAny (model prog w) A (eval iter env) (EnSrc prog w A h₀ L m env elt a b scope cl (fun s₂ => FinA h₀ L m s₂ y Q)) E s)
    (hs : ∀ x, foldedSetIterable iter env x = pure x := by intro _; rfl) :
    wpAny (model prog w) A (exec (.Assign [.Name y py] (.ListComp elt [⟨.Tuple [.Name a pa, .Name b pb] kk tp, iter, [], 0⟩] scope pos) spos) env) Q E s := by
  subst hLe
  rw [exec_Assign_Name_used _ _ _ _ hsw]
  refine wpAny_bind (wpAny_standAt (wpAny_bind ?_))
  show wpAny _ A (do let _ ← comprehension (.ListComp elt [⟨.Tuple [.Name a pa, .Name b pb] kk tp, iter, [], 0⟩] scope pos) scope env _ (newList []) false (eval iter env) (some (assign (.Name y py) env))) _ _ s
  refine wpAny_bind (wpAny_mono (wpAny_comprehension_free (use := some (assign (.Name y py) env)) (Q := fun _ s' => Q .next s') rfl hs hclos hkind hnames (wpAny_mono h (fun xv s₁ h₁ => ?_) fun _ _ e => e)) (fun _ s' hq => wpAny_pure (wpAny_pure hq)) fun _ _ e => e)
  obtain ⟨e, it, l, n, Pt, St, Mid, news, J, rfl, hh, F, N, X, st, off, hJ, turn, fin⟩ := h₁
  refine X.W.self 0 _ _ _ st ?_
  refine en_block X.W X.pt X.so X.st X.md X.hz hh X.hei X.hle X.hli X.he₀ X.hi₀ X.hLe X.hLi st hcell hkind hxa hxb hab F N off hJ X.hLl turn fun D C h' tk m' ys nx F' N' o1 hn hC₀ hD₀ hCL hDL hCD offC hJn => ?_
  show wpAny _ A (assign (.Name y py) env (.ref D)) _ _ _
  refine wpAny_assign_Name (wpAny_storeName_local hy F'.ns (fun h₂ hn₂ hs₂ => ?_) hp)
  have hL₀ : h₀.get? env.locals = none := Heap.get?_none_of_le F'.above
  have F₂ : Fr h₀ env.locals h₂ (fun z => if z = y then some (.ref D) else m z) := ⟨hn₂, fun b o e => hs₂.extBut b o (fun q => by rw [q, hL₀] at e; cases e) (F'.keep b o e), F'.above⟩
  refine ⟨m', hn.sameBut hs₂ hCL, fun h'' hs'' => fin h' _ _ hJn D h'' _ (F₂.change hs'' hCL hC₀) (fun p hp => ?_) o1⟩
  have z : h₂.get? p.1 = some p.2 := hs₂.extBut _ _ (N' p hp).2.1 (N' p hp).1
  refine ⟨hs''.extBut _ _ ?_ z, (N' p hp).2⟩
  rcases List.mem_cons.mp hp with rfl | hp
  · exact Ne.symm hCD
  · exact offC p hp
/-- an enumerate over a tuple of the base -/
theorem en_srcT {elt : PySem.Expr} {a b : Str} {scope : Scope} {cl : List (Str × Addr)} {Fin : Shared → List Value → List (Addr × Obj) → Prop} {l : Addr} {items : Array Value} {news : List (Addr × Obj)} {J : Nat → List Value → List (Addr × Obj) → Prop} (_hJ : CompInv J)
    (hh : A.handled = none) (F : Fr h₀ L s.heap m) (N : News h₀ L s.heap news) (hl : h₀.IsTuple l items) (hz : items.size ≤ 100000) (h0 : Hold (J 0 [] news))
    (turn : Hold (∀ h₁ : Heap, EnTurn prog w A h₀ L m env elt a b scope cl items.size (fun i vals => ∃ t x, items[i]? = some x ∧ vals = #[.int i t, x]) J { s with heap := h₁ }))
    (fin : Hold (∀ g ys nx, J items.size ys nx → Fin { s with heap := g } ys nx)) :
    wpAny (model prog w) A (call (.type "enumerate") [.ref l]) (EnSrc prog w A h₀ L m env elt a b scope cl Fin) E s := by
  obtain ⟨ol, el, rl⟩ := hl
  have hls : s.heap.get? l = some ol := F.keep _ _ el
  have hlt : l < s.heap.objs.size := Heap.lt_size hls
  have none₀ : ∀ b, s.heap.objs.size ≤ b → h₀.get? b = none := fun b hb => by
    cases q : h₀.get? b with
    | none => rfl
    | some o => exact absurd (Heap.lt_size (F.keep b o q)) (Nat.not_lt.mpr hb)
  have hLlt : L < s.heap.objs.size := F.ns.lt
  refine en_call ⟨ol, hls, rl⟩ fun h' he hi hk => ?_
  have hei : s.heap.objs.size + 1 ≠ s.heap.objs.size := Nat.succ_ne_self _
  have hle : l ≠ s.heap.objs.size + 1 := Nat.ne_of_lt (Nat.lt_succ_of_lt hlt)
  refine ⟨s.heap.objs.size + 1, s.heap.objs.size, l, items.size, _, _, _, news, J, rfl, hh, F.keeps hk, N.grown hk, ⟨en_walks hh _ _ l hei hle (Nat.ne_of_lt hlt) items, ?_, ?_, ?_, ?_, hz, hei, hle, Nat.ne_of_lt hlt, none₀ _ (Nat.le_succ _), none₀ _ (Nat.le_refl _), Nat.ne_of_lt (Nat.lt_succ_of_lt hLlt), Nat.ne_of_lt hLlt, ?_⟩,
    ⟨⟨_, he⟩, hi, ⟨ol, hk _ _ hls, rl⟩⟩, ?_, h0, turn h', fun g ys nx j => fin g ys nx j⟩
  · rintro i vals ⟨t, x, _, rfl⟩; exact ⟨_, _, rfl⟩
  · rintro i h ⟨⟨old, he⟩, ⟨oi, ei, _⟩, ⟨ot, et, _⟩⟩
    exact ⟨⟨_, he⟩, ⟨_, ei⟩, ⟨_, et⟩⟩
  · rintro i ys nx h h' ⟨⟨old, he⟩, ⟨oi, ei, ri⟩, _⟩ q1 q2 hb _ _
    exact ⟨⟨old, q1.trans he⟩, ⟨oi, q2.trans ei, ri⟩, ⟨ol, hb _ _ el, rl⟩⟩
  · rintro i T h ⟨_, _, _, h1, h2⟩
    simp [h1, h2]
  · rintro rfl
    have := Heap.get?_none_of_le F.above
    rw [el] at this; cases this
  · intro p hp
    have := Heap.lt_size (N p hp).1
    exact ⟨Nat.ne_of_lt (Nat.lt_succ_of_lt this), Nat.ne_of_lt this⟩
end

end

theorem w_LP : True := by
  k_with_none
  (k_with "eval Name" => (k_here; k_dflt (refine' nameX_L (by k_asm) (by rfl) ?_ (by rfl) (by rfl); k_whole)))
  (k_with "cj" => (first | assumption | exact And.left (by assumption) | exact And.left (And.right (by assumption)) | exact And.right (by assumption) | exact And.left (And.right (And.right (by assumption))) | exact And.right (And.right (by assumption)) | exact And.left (And.right (And.right (And.right (by assumption)))) | exact And.right (And.right (And.right (by assumption))) | exact And.left (And.right (And.right (And.right (And.right (by assumption))))) | exact And.right (And.right (And.right (And.right (by assumption)))) | exact And.left (And.right (And.right (And.right (And.right (And.right (by assumption)))))) | exact And.right (And.right (And.right (And.right (And.right (by assumption))))) | exact And.left (And.right (And.right (And.right (And.right (And.right (And.right (by assumption))))))) | exact And.right (And.right (And.right (And.right (And.right (And.right (by assumption)))))) | exact And.left (And.right (And.right (And.right (And.right (And.right (And.right (And.right (by assumption)))))))) | exact And.right (And.right (And.right (And.right (And.right (And.right (And.right (by assumption))))))) | exact And.left (And.right (And.right (And.right (And.right (And.right (And.right (And.right (And.right (by assumption))))))))) | exact And.right (And.right (And.right (And.right (And.right (And.right (And.right (And.right (by assumption)))))))) | exact And.left (And.right (And.right (And.right (And.right (And.right (And.right (And.right (And.right (And.right (by assumption)))))))))) | exact And.right (And.right (And.right (And.right (And.right (And.right (And.right (And.right (And.right (by assumption))))))))) | exact And.left (And.right (And.right (And.right (And.right (And.right (And.right (And.right (And.right (And.right (And.right (by assumption))))))))))) | exact And.right (And.right (And.right (And.right (And.right (And.right (And.right (And.right (And.right (And.right (by assumption)))))))))) | exact And.left (And.right (And.right (And.right (And.right (And.right (And.right (And.right (And.right (And.right (And.right (And.right (by assumption)))))))))))) | exact And.right (And.right (And.right (And.right (And.right (And.right (And.right (And.right (And.right (And.right (And.right (by assumption))))))))))) | exact And.left (And.right (And.right (And.right (And.right (And.right (And.right (And.right (And.right (And.right (And.right (And.right (And.right (by assumption))))))))))))) | exact And.right (And.right (And.right (And.right (And.right (And.right (And.right (And.right (And.right (And.right (And.right (And.right (by assumption)))))))))))) | exact And.left (And.right (And.right (And.right (And.right (And.right (And.right (And.right (And.right (And.right (And.right (And.right (And.right (And.right (by assumption)))))))))))))) | exact And.right (And.right (And.right (And.right (And.right (And.right (And.right (And.right (And.right (And.right (And.right (And.right (And.right (by assumption)))))))))))))))
  (k_with "cj2" => (first | k_extra "cj" | exact Nat.lt_succ_of_lt (by k_extra "cj") | exact Nat.lt_succ_of_lt (Nat.lt_succ_of_lt (by k_extra "cj")) | exact Nat.lt_succ_self _))
  (k_with "om" => (first | (with_reducible assumption) | (with_reducible exact Nat.ne_of_gt (by k_extra "cj")) | (with_reducible exact Nat.ne_of_lt (by k_extra "cj")) | (with_reducible k_extra "cj2") | (with_reducible exact Nat.ne_of_lt (by k_extra "cj2")) | (with_reducible exact Nat.ne_of_gt (by k_extra "cj2")) | (with_reducible exact Ne.symm (by k_extra "cj")) | omega))
  (k_with "k_ne" => (refine neN ?_; (try dsimp only); k_extra "om"))
  trivial
noncomputable def pr : List Bytes := [#[109, 109], #[97, 97], #[122, 122], #[97, 98], #[109, 110], #[98, 97], #[122, 97], #[97, 122], #[110, 109], #[98, 98]]
noncomputable def c0 : List Bytes := [#[109, 109, 120], #[97, 97, 121], #[122, 122, 121], #[97, 98, 120], #[109, 110, 121], #[98, 97, 121], #[122, 97, 120], #[97, 122, 121], #[110, 109, 121], #[98, 98, 120]]
theorem primes_at {w : World} {g : Heap} (X : (hd02.heap_39 w.params).In g) : ∃ ts : List (Bytes × Tok), ts.map (·.1) = pr ∧ g.get? 213 = some (tupOf (ts.map rv)) :=
  ⟨[(#[109, 109], 468), (#[97, 97], 469), (#[122, 122], 470), (#[97, 98], 471), (#[109, 110], 472), (#[98, 97], 473), (#[122, 97], 474), (#[97, 122], 475), (#[110, 109], 476), (#[98, 98], 477)], rfl, X _ _ rfl⟩
theorem pr_size {i : Nat} {b : Bytes} (h : pr[i]? = some b) : b.size ≤ 1000 := by
  have hm := List.mem_of_getElem? h
  revert hm
  have : ∀ b ∈ pr, b.size ≤ 1000 := by decide
  exact this b
theorem c0_tab : ∀ i : Fin 10, ∀ p ∈ [((0 : Int), (120 : UInt8)), (1, 121), (2, 122)], ((i.1 : Int) * (i.1 : Int)).fmod 3 = p.1 → c0[i.1]? = (pr[i.1]?).map fun b => Array.push b p.2 := by decide +kernel
theorem c0_next {i : Nat} {rb : Bytes} {k : Int} {c : UInt8} {cs : List (Bytes × Tok)} {t : Tok} (hi : i < 10) (hrp : pr[i]? = some rb) (hcs : cs.map (·.1) = c0.take i) (hk : (k = 0 ∧ c = 120) ∨ (k = 1 ∧ c = 121) ∨ (k = 2 ∧ c = 122)) (hf : ((i : Int) * (i : Int)).fmod 3 = k) :
    List.map (fun x => x.fst) (cs ++ [(Array.push rb c, t)]) = List.take (i + 1) c0 := by
  have e : c0[i]? = some (Array.push rb c) := by
    have hm : (k, c) ∈ [((0 : Int), (120 : UInt8)), (1, 121), (2, 122)] := by
      rcases hk with ⟨rfl, rfl⟩ | ⟨rfl, rfl⟩ | ⟨rfl, rfl⟩
      · exact .head _
      · exact .tail _ (.head _)
      · exact .tail _ (.tail _ (.head _))
    rw [c0_tab ⟨i, hi⟩ (k, c) hm hf, hrp]; rfl
  rw [List.map_append, hcs, List.take_add_one, e]; rfl

theorem w_LM : True := by
  k_with_none
  (k_with "eval Name" => (k_here; k_dflt (refine' nameX_L (by k_asm) (by rfl) ?_ (by rfl) (by rfl); k_whole)))
  (k_with "cj" => (first | assumption | exact And.left (by assumption) | exact And.left (And.right (by assumption)) | exact And.right (by assumption) | exact And.left (And.right (And.right (by assumption))) | exact And.right (And.right (by assumption)) | exact And.left (And.right (And.right (And.right (by assumption)))) | exact And.right (And.right (And.right (by assumption))) | exact And.left (And.right (And.right (And.right (And.right (by assumption))))) | exact And.right (And.right (And.right (And.right (by assumption)))) | exact And.left (And.right (And.right (And.right (And.right (And.right (by assumption)))))) | exact And.right (And.right (And.right (And.right (And.right (by assumption))))) | exact And.left (And.right (And.right (And.right (And.right (And.right (And.right (by assumption))))))) | exact And.right (And.right (And.right (And.right (And.right (And.right (by assumption)))))) | exact And.left (And.right (And.right (And.right (And.right (And.right (And.right (And.right (by assumption)))))))) | exact And.right (And.right (And.right (And.right (And.right (And.right (And.right (by assumption))))))) | exact And.left (And.right (And.right (And.right (And.right (And.right (And.right (And.right (And.right (by assumption))))))))) | exact And.right (And.right (And.right (And.right (And.right (And.right (And.right (And.right (by assumption)))))))) | exact And.left (And.right (And.right (And.right (And.right (And.right (And.right (And.right (And.right (And.right (by assumption)))))))))) | exact And.right (And.right (And.right (And.right (And.right (And.right (And.right (And.right (And.right (by assumption))))))))) | exact And.left (And.right (And.right (And.right (And.right (And.right (And.right (And.right (And.right (And.right (And.right (by assumption))))))))))) | exact And.right (And.right (And.right (And.right (And.right (And.right (And.right (And.right (And.right (And.right (by assumption)))))))))) | exact And.left (And.right (And.right (And.right (And.right (And.right (And.right (And.right (And.right (And.right (And.right (And.right (by assumption)))))))))))) | exact And.right (And.right (And.right (And.right (And.right (And.right (And.right (And.right (And.right (And.right (And.right (by assumption))))))))))) | exact And.left (And.right (And.right (And.right (And.right (And.right (And.right (And.right (And.right (And.right (And.right (And.right (And.right (by assumption))))))))))))) | exact And.right (And.right (And.right (And.right (And.right (And.right (And.right (And.right (And.right (And.right (And.right (And.right (by assumption)))))))))))) | exact And.left (And.right (And.right (And.right (And.right (And.right (And.right (And.right (And.right (And.right (And.right (And.right (And.right (And.right (by assumption)))))))))))))) | exact And.right (And.right (And.right (And.right (And.right (And.right (And.right (And.right (And.right (And.right (And.right (And.right (And.right (by assumption)))))))))))))))
  (k_with "cj2" => (first | k_extra "cj" | exact Nat.lt_succ_of_lt (by k_extra "cj") | exact Nat.lt_succ_of_lt (Nat.lt_succ_of_lt (by k_extra "cj")) | exact Nat.lt_succ_self _))
  (k_with "om" => (first | (with_reducible assumption) | (with_reducible exact Nat.ne_of_gt (by k_extra "cj")) | (with_reducible exact Nat.ne_of_lt (by k_extra "cj")) | (with_reducible k_extra "cj2") | (with_reducible exact Nat.ne_of_lt (by k_extra "cj2")) | (with_reducible exact Nat.ne_of_gt (by k_extra "cj2")) | (with_reducible exact Ne.symm (by k_extra "cj")) | omega))
  (k_with "k_ne" => (refine neN ?_; (try dsimp only); k_extra "om"))
  trivial
section
variable {prog : Program} {w : World} {A : Around} {E : Value → Shared → Prop} {s : Shared} {h₀ : Heap} {L : Addr} {m : Str → Option Value} {env : Env} {news : List (Addr × Obj)}
theorem m_listcopy {l : Addr} {vs : List Value} {n : Nat} {Q : Value → Shared → Prop} (F : Fr h₀ L s.heap m) (N : News h₀ L s.heap news) (hm : (l, listOf vs.toArray n) ∈ news) (hz : vs.length ≤ 100000)
    (h : ∀ D c h', Fr h₀ L h' m → News h₀ L h' ((D, listOf vs.toArray c) :: news) → (∀ q ∈ news, q.1 < D) → Q (.ref D) { s with heap := h' }) : wpAny (model prog w) A (call (.type "list") [.ref l]) Q E s :=
  list_copyK F N (isListOf (N _ hm).1) h (by rw [List.size_toArray, sizeLine_eq]; omega)
theorem m_pick3 {l : Addr} {a b c : Value} {n : Nat} {value slice : PySem.Expr} {k : Int} {u : Tok} {Q : Value → Shared → Prop} (N : News h₀ L s.heap news) (hm : (l, listOf #[a, b, c] n) ∈ news) (h0 : 0 ≤ k) (h3 : k < 3)
    (h : ∀ v, v = a ∨ v = b ∨ v = c → Q v s)
    (hs : subscripted slice false (.ref l) (.int k u) = operate [.ref l, .int k u] (getItem (.ref l) (.int k u)) := by with_unfolding_all rfl) :
    wpAny (model prog w) A (subscriptTail value slice (.ref l) (.int k u)) Q E s := by
  have hl := isListOf (N _ hm).1
  have hk : k = 0 ∨ k = 1 ∨ k = 2 := by omega
  rcases hk with rfl | rfl | rfl
  · exact tail_any hl.typeIs slot_list_getitem.lookup (wpAny_getItem_list hl (by omega) (by omega) (by rfl) (h _ (.inl rfl))) hs
  · exact tail_any hl.typeIs slot_list_getitem.lookup (wpAny_getItem_list hl (by omega) (by omega) (by rfl) (h _ (.inr (.inl rfl)))) hs
  · exact tail_any hl.typeIs slot_list_getitem.lookup (wpAny_getItem_list hl (by omega) (by omega) (by rfl) (h _ (.inr (.inr rfl)))) hs
end

theorem w_DE : True := by
  k_with_none
  (k_with "eval Name" => (k_here; k_dflt (refine' nameX_L (by k_asm) (by rfl) ?_ (by rfl) (by rfl); k_whole)))
  (k_with "cj" => (first | assumption | exact And.left (by assumption) | exact And.left (And.right (by assumption)) | exact And.right (by assumption) | exact And.left (And.right (And.right (by assumption))) | exact And.right (And.right (by assumption)) | exact And.left (And.right (And.right (And.right (by assumption)))) | exact And.right (And.right (And.right (by assumption))) | exact And.left (And.right (And.right (And.right (And.right (by assumption))))) | exact And.right (And.right (And.right (And.right (by assumption)))) | exact And.left (And.right (And.right (And.right (And.right (And.right (by assumption)))))) | exact And.right (And.right (And.right (And.right (And.right (by assumption))))) | exact And.left (And.right (And.right (And.right (And.right (And.right (And.right (by assumption))))))) | exact And.right (And.right (And.right (And.right (And.right (And.right (by assumption)))))) | exact And.left (And.right (And.right (And.right (And.right (And.right (And.right (And.right (by assumption)))))))) | exact And.right (And.right (And.right (And.right (And.right (And.right (And.right (by assumption))))))) | exact And.left (And.right (And.right (And.right (And.right (And.right (And.right (And.right (And.right (by assumption))))))))) | exact And.right (And.right (And.right (And.right (And.right (And.right (And.right (And.right (by assumption)))))))) | exact And.left (And.right (And.right (And.right (And.right (And.right (And.right (And.right (And.right (And.right (by assumption)))))))))) | exact And.right (And.right (And.right (And.right (And.right (And.right (And.right (And.right (And.right (by assumption))))))))) | exact And.left (And.right (And.right (And.right (And.right (And.right (And.right (And.right (And.right (And.right (And.right (by assumption))))))))))) | exact And.right (And.right (And.right (And.right (And.right (And.right (And.right (And.right (And.right (And.right (by assumption)))))))))) | exact And.left (And.right (And.right (And.right (And.right (And.right (And.right (And.right (And.right (And.right (And.right (And.right (by assumption)))))))))))) | exact And.right (And.right (And.right (And.right (And.right (And.right (And.right (And.right (And.right (And.right (And.right (by assumption))))))))))) | exact And.left (And.right (And.right (And.right (And.right (And.right (And.right (And.right (And.right (And.right (And.right (And.right (And.right (by assumption))))))))))))) | exact And.right (And.right (And.right (And.right (And.right (And.right (And.right (And.right (And.right (And.right (And.right (And.right (by assumption)))))))))))) | exact And.left (And.right (And.right (And.right (And.right (And.right (And.right (And.right (And.right (And.right (And.right (And.right (And.right (And.right (by assumption)))))))))))))) | exact And.right (And.right (And.right (And.right (And.right (And.right (And.right (And.right (And.right (And.right (And.right (And.right (And.right (by assumption)))))))))))))))
  (k_with "cj2" => (first | k_extra "cj" | exact Nat.lt_succ_of_lt (by k_extra "cj") | exact Nat.lt_succ_of_lt (Nat.lt_succ_of_lt (by k_extra "cj")) | exact Nat.lt_succ_self _))
  (k_with "om" => (first | (with_reducible assumption) | (with_reducible exact Nat.ne_of_gt (by k_extra "cj")) | (with_reducible exact Nat.ne_of_lt (by k_extra "cj")) | (with_reducible k_extra "cj2") | (with_reducible exact Nat.ne_of_lt (by k_extra "cj2")) | (with_reducible exact Nat.ne_of_gt (by k_extra "cj2")) | (with_reducible exact Ne.symm (by k_extra "cj")) | omega))
  (k_with "k_ne" => (refine neN ?_; (try dsimp only); k_extra "om"))
  trivial
structure MRow where
  a : Addr
  i : Int
  t : Tok
  c : Nat
abbrev MRow.obj (r : MRow) : Obj := listOf #[.int r.i r.t, .int r.i r.t] r.c
abbrev MRow.ent (r : MRow) : Addr × Obj := (r.a, r.obj)
theorem comp_push {g h : Heap} {L I C D D' l' : Addr} {m : Str → Option Value} {s : Shared} {oI oC oD o ol : Obj} {B R : List (Addr × Obj)} {rest : Value → List (Addr × Obj) → Prop} {y : Value} {tk : Nat} (F : Fr g L h m) (N : News g L h ((D', o) :: (l', ol) :: (I, oI) :: (C, oC) :: (D, oD) :: (B ++ R)))
    (off : PyProof.Rows.LCg.Off3 I C D (B ++ R)) (h1 : @LT.lt Nat _ I D') (h2 : @LT.lt Nat _ C D') (h3 : @LT.lt Nat _ D D') (r : rest y (B ++ (R ++ [(D', o)]))) :
    PyProof.Rows.LCg.CompEnd g L m s I oI C oC D oD (fun _ => True) rest y { s with heap := h, toks := tk } := by
  have om := off.mem
  refine PyProof.Rows.LCg.CompEnd.intro F N (B ++ (R ++ [(D', o)])) (fun p hp => ?_) (PyProof.Rows.LCg.Off3.of fun p hp => ?_) True.intro r
  · rcases List.mem_cons.mp hp with rfl | hp
    · exact .tail _ (.tail _ (.head _))
    rcases List.mem_cons.mp hp with rfl | hp
    · exact .tail _ (.tail _ (.tail _ (.head _)))
    rcases List.mem_cons.mp hp with rfl | hp
    · exact .tail _ (.tail _ (.tail _ (.tail _ (.head _))))
    rw [← List.append_assoc] at hp
    rcases List.mem_append.mp hp with hp | hp
    · exact .tail _ (.tail _ (.tail _ (.tail _ (.tail _ hp))))
    · rw [List.mem_singleton.mp hp]; exact .head _
  · rw [← List.append_assoc] at hp
    rcases List.mem_append.mp hp with hp | hp
    · exact om p hp
    · rw [List.mem_singleton.mp hp]; exact ⟨Nat.ne_of_gt h1, Nat.ne_of_gt h2, Nat.ne_of_gt h3⟩
noncomputable def Newer (a : Nat) (l : List (Addr × Obj)) : Prop := ∀ q ∈ l, @LT.lt Nat _ q.1 a
theorem Newer.of {a : Nat} : ∀ {l : List (Addr × Obj)}, AllLt a l → Newer a l
  | [], _ => fun _ h => nomatch h
  | _ :: _, x => fun p h => by
    rcases List.mem_cons.mp h with rfl | h
    · exact x.1
    · exact Newer.of x.2 p h
theorem allLt_left {d : Nat} : ∀ {A B : List (Addr × Obj)}, AllLt d (A ++ B) → AllLt d A
  | [], _, _ => trivial
  | _ :: _, _, h => ⟨h.1, allLt_left h.2⟩
theorem off1_mem {D : Addr} : ∀ {l : List (Addr × Obj)}, PyProof.Rows.LCg.Off1 D l → ∀ p ∈ l, @Ne Nat p.1 D
  | [], _, _, h => nomatch h
  | _ :: _, x, p, h => by
    rcases List.mem_cons.mp h with rfl | h
    · exact x.1
    · exact off1_mem x.2 p h
structure Made (st : St) (cs : List (Bytes × Tok)) : Prop where
  cs : st.cs = cs
  rows : st.rows.map (·.v) = (List.range st.cs.length).map fun (i : Nat) => [(i : Int), (i : Int)]
  which : st.which = 0
  nowhere : st.nowhere = false
  last : st.last = -1
noncomputable def kdl (t0 t1 t2 t3 t4 t5 t6 t7 t8 t9 t10 : Tok) : Nat → Tok
  | 0 => t0 | 1 => t1 | 2 => t2 | 3 => t3 | 4 => t4 | 5 => t5 | 6 => t6 | 7 => t7 | 8 => t8 | 9 => t9 | _ => t10
/-- the object's standing parts, as entries of a caller's ledger -/
noncomputable def Own (I : Ids) (st : St) (X : List (Addr × Obj)) : Prop := I.Ok ∧ (∀ p ∈ X, p.1 ∉ I.adr) ∧ ∀ (g : Heap) (L : Addr) (h' : Heap), News g L h' X → Fx (hideAll h' I.adr) I st
/-- where the file stands: a tuple of its own part -/
noncomputable def AtX (I : Ids) (X : List (Addr × Obj)) (atv : Value) (b : Bytes) (i : Int) : Prop := ∃ tA t1 t2, atv = .ref tA ∧ tA ∉ I.adr ∧ ((tA, tupOf [.bytes b t1, .int i t2]) : Addr × Obj) ∈ X
theorem make_end {w : World} {g h : Heap} {L₁ tA sA kA a0 a1 x dx cA : Addr} {cs : List (Bytes × Tok)} {rs : List MRow} {nc n0 : Nat} {e3 e4 e6 e9 e11 : Addr × Obj} {mode acc : Str} {tm ta u1 u2 u3 u4 u5 u6 tn tw tl th : Tok} {t0 t1 t2 t3 t4 t5 t6 t7 t8 t9 t10 : Tok}
    (N : News g L₁ h ((tA, tupOf [.bytes #[] u1, .int (-1) u2]) :: (sA, PyProof.Rows.LCg.lst (rs.map fun r => Value.ref r.a)) :: (kA, listOf #[.ref a0, .ref a1] n0) :: e3 :: e4 :: (a0, tupOf [.int 0 u3, .int 2 u4, .bool false]) :: e6 :: (x, instObj 208 dx) ::
      (dx, dictOf [ent w "content" t0 (.ref cA), ent w "mode" t1 (.str mode tm), ent w "access" t2 (.str acc ta), ent w "keys" t3 (.ref kA), ent w "stamps" t4 (.ref sA), ent w "next_stamp" t5 (.int (cs.length : Nat) tn), ent w "which" t6 (.int 0 tw), ent w "at" t7 (.ref tA), ent w "is_nowhere" t8 (.bool false), ent w "read_last" t9 (.int (-1) tl), ent w "highest" t10 (.bytes #[] th)] 11) ::
      e9 :: (a1, tupOf [.int 2 u5, .int 1 u6, .bool true]) :: e11 :: (cA, listOf (cs.map rv).toArray nc) :: rs.map MRow.ent))
    (hsz : ∀ r ∈ cs, r.1.size ≤ 1000) (hl : cs.length ≤ 50) (hrs : rs.map (·.i) = (List.range cs.length).map fun (k : Nat) => (k : Int))
    (d1 : @LT.lt Nat _ cA dx) (d2 : @LT.lt Nat _ dx x) (d3 : @Ne Nat x sA) (d11 : @Ne Nat dx sA) (d12 : @Ne Nat cA sA) (d13 : @Ne Nat a1 sA) (d14 : @LT.lt Nat _ x tA) (d4 : @LT.lt Nat _ sA tA) (d5 : @LT.lt Nat _ cA a1) (d6 : @LT.lt Nat _ a1 dx) (d7 : @LT.lt Nat _ x a0) (d8 : @LT.lt Nat _ x kA) (d9 : @Ne Nat kA sA) (d10 : @Ne Nat a0 sA)
    (hr : ∀ r ∈ rs, @LT.lt Nat _ x r.a ∧ @Ne Nat r.a sA) :
    ∃ (I : Ids) (st : St) (tk2 : Nat → Tok) (tm2 ta2 tn2 tw2 tl2 : Tok) (hi2 : Value) (nc2 ns2 : Nat) (X : List (Addr × Obj)), I.x = x ∧ I.dx = dx ∧ I.sA = sA ∧ I.cA = cA ∧ I.mode = mode ∧ I.acc = acc ∧ Made st cs ∧ AtX I X (.ref tA) #[] (-1) ∧ News g L₁ h (led4T w I st tk2 tm2 ta2 tn2 tw2 tl2 (.ref tA) hi2 nc2 ns2 X) ∧ Own I st X ∧ ∀ p ∈ X, @Ne Nat p.1 cA := by
  have hrl : rs.length = cs.length := by have := congrArg List.length hrs; simpa using this
  have eR : (rs.map fun r => (⟨r.a, [r.i, r.i]⟩ : Row)).map (fun r => Value.ref r.a) = rs.map fun r => Value.ref r.a := by rw [List.map_map]; rfl
  have off : ∀ {b : Nat}, @Ne Nat b x → @Ne Nat b dx → @Ne Nat b cA → @Ne Nat b sA → b ∉ [x, dx, cA, sA] := fun {b} q1 q2 q3 q4 q => by
    simp at q
    rcases q with e | e | e | e
    · exact q1 e
    · exact q2 e
    · exact q3 e
    · exact q4 e
  have kt := (N _ (.head _)).1
  have kk := (N (kA, _) (.tail _ (.tail _ (.head _)))).1
  have k0 := (N (a0, _) (.tail _ (.tail _ (.tail _ (.tail _ (.tail _ (.head _))))))).1
  have k1 := (N (a1, _) (.tail _ (.tail _ (.tail _ (.tail _ (.tail _ (.tail _ (.tail _ (.tail _ (.tail _ (.tail _ (.head _)))))))))))).1
  have nt : tA ∉ [x, dx, cA, sA] := off (by k_extra "om") (by k_extra "om") (by k_extra "om") (by k_extra "om")
  have nk : kA ∉ [x, dx, cA, sA] := off (by k_extra "om") (by k_extra "om") (by k_extra "om") (by k_extra "om")
  have n0' : a0 ∉ [x, dx, cA, sA] := off (by k_extra "om") (by k_extra "om") (by k_extra "om") (by k_extra "om")
  have n1' : a1 ∉ [x, dx, cA, sA] := off (by k_extra "om") (by k_extra "om") (by k_extra "om") (by k_extra "om")
  have nr : ∀ r ∈ rs, r.a ∉ [x, dx, cA, sA] := fun r h => by
    obtain ⟨r1, r2⟩ := hr r h
    exact off (by k_extra "om") (by k_extra "om") (by k_extra "om") (by k_extra "om")
  have ok : (⟨x, dx, cA, sA, kA, acc, mode⟩ : Ids).Ok := by
    constructor
    · show @Ne Nat x dx; omega
    · show @Ne Nat x cA; omega
    · show @Ne Nat x sA; omega
    · show @Ne Nat dx cA; omega
    · show @Ne Nat dx sA; omega
    · show @Ne Nat cA sA; omega
  refine ⟨⟨x, dx, cA, sA, kA, acc, mode⟩, ⟨cs, rs.map fun r => ⟨r.a, [r.i, r.i]⟩, cs.length, 0, false, -1⟩, kdl t0 t1 t2 t3 t4 t5 t6 t7 t8 t9 t10, tm, ta, tn, tw, tl, .bytes #[] th, nc, rs.length, (tA, tupOf [.bytes #[] u1, .int (-1) u2]) :: (kA, listOf #[.ref a0, .ref a1] n0) :: (a0, tupOf [.int 0 u3, .int 2 u4, .bool false]) :: (a1, tupOf [.int 2 u5, .int 1 u6, .bool true]) :: rs.map MRow.ent,
    rfl, rfl, rfl, rfl, rfl, rfl, ⟨rfl, ?_, rfl, rfl, rfl⟩, ⟨tA, u1, u2, rfl, nt, .head _⟩, ?_, ⟨ok, ?_, ?_⟩, ?_⟩
  · show (rs.map fun r => (⟨r.a, [r.i, r.i]⟩ : Row)).map (·.v) = (List.range cs.length).map fun (i : Nat) => [(i : Int), (i : Int)]
    have e1 : (rs.map fun r => (⟨r.a, [r.i, r.i]⟩ : Row)).map (·.v) = (rs.map (·.i)).map fun i => [i, i] := by rw [List.map_map, List.map_map]; rfl
    rw [e1, hrs, List.map_map]; rfl
  · intro p hp
    rcases List.mem_cons.mp hp with rfl | hp
    · exact N _ (.tail _ (.tail _ (.tail _ (.tail _ (.tail _ (.tail _ (.tail _ (.head _))))))))
    rcases List.mem_cons.mp hp with rfl | hp
    · exact N _ (.tail _ (.tail _ (.tail _ (.tail _ (.tail _ (.tail _ (.tail _ (.tail _ (.head _)))))))))
    rcases List.mem_cons.mp hp with rfl | hp
    · exact N _ (.tail _ (.tail _ (.tail _ (.tail _ (.tail _ (.tail _ (.tail _ (.tail _ (.tail _ (.tail _ (.tail _ (.tail _ (.head _)))))))))))))
    rcases List.mem_cons.mp hp with rfl | hp
    · have := N _ (.tail _ (.head _))
      rw [eR, show rs.length = (rs.map fun r => Value.ref r.a).length by simp]
      exact this
    rcases List.mem_cons.mp hp with rfl | hp
    · exact N _ (.head _)
    rcases List.mem_cons.mp hp with rfl | hp
    · exact N _ (.tail _ (.tail _ (.head _)))
    rcases List.mem_cons.mp hp with rfl | hp
    · exact N _ (.tail _ (.tail _ (.tail _ (.tail _ (.tail _ (.head _))))))
    rcases List.mem_cons.mp hp with rfl | hp
    · exact N _ (.tail _ (.tail _ (.tail _ (.tail _ (.tail _ (.tail _ (.tail _ (.tail _ (.tail _ (.tail _ (.head _)))))))))))
    · exact N _ (.tail _ (.tail _ (.tail _ (.tail _ (.tail _ (.tail _ (.tail _ (.tail _ (.tail _ (.tail _ (.tail _ (.tail _ (.tail _ hp)))))))))))))
  · intro p hp
    rcases List.mem_cons.mp hp with rfl | hp
    · exact nt
    rcases List.mem_cons.mp hp with rfl | hp
    · exact nk
    rcases List.mem_cons.mp hp with rfl | hp
    · exact n0'
    rcases List.mem_cons.mp hp with rfl | hp
    · exact n1'
    · obtain ⟨q, hq, rfl⟩ := List.mem_map.mp hp
      exact nr q hq
  · intro g2 L2 h2 N2
    have ek := (N2 _ (.tail _ (.head _))).1
    have e0 := (N2 _ (.tail _ (.tail _ (.head _)))).1
    have e1 := (N2 _ (.tail _ (.tail _ (.tail _ (.head _))))).1
    refine ⟨⟨a0, a1, n0, u3, u4, u5, u6, hideAll_get _ ek nk, hideAll_get _ e0 n0', hideAll_get _ e1 n1'⟩, ?_, hsz, by show cs.length ≤ 1000; omega, by simpa using hrl, ?_, .inl rfl⟩
    · intro r hr'
      obtain ⟨q, hq, rfl⟩ := List.mem_map.mp hr'
      have e := (N2 (q.a, q.obj) (.tail _ (.tail _ (.tail _ (.tail _ (List.mem_map_of_mem (f := MRow.ent) hq)))))).1
      exact ⟨[.int q.i q.t, .int q.i q.t], q.c, hideAll_get _ e (nr q hq), .cons _ _ (.cons _ _ .nil)⟩
    · intro r hr'
      obtain ⟨q, hq, rfl⟩ := List.mem_map.mp hr'
      rfl
  · intro p hp
    rcases List.mem_cons.mp hp with rfl | hp
    · show @Ne Nat tA cA; omega
    rcases List.mem_cons.mp hp with rfl | hp
    · show @Ne Nat kA cA; omega
    rcases List.mem_cons.mp hp with rfl | hp
    · show @Ne Nat a0 cA; omega
    rcases List.mem_cons.mp hp with rfl | hp
    · show @Ne Nat a1 cA; omega
    · obtain ⟨q, hq, rfl⟩ := List.mem_map.mp hp
      have := hr q hq
      show @Ne Nat q.a cA; omega

theorem w_DM : True := by
  k_with_none
  (k_with "eval Name" => (k_here; k_dflt (refine' nameX_L (by k_asm) (by rfl) ?_ (by rfl) (by rfl); k_whole)))
  (k_with "cj" => (first | assumption | exact And.left (by assumption) | exact And.left (And.right (by assumption)) | exact And.right (by assumption) | exact And.left (And.right (And.right (by assumption))) | exact And.right (And.right (by assumption)) | exact And.left (And.right (And.right (And.right (by assumption)))) | exact And.right (And.right (And.right (by assumption))) | exact And.left (And.right (And.right (And.right (And.right (by assumption))))) | exact And.right (And.right (And.right (And.right (by assumption)))) | exact And.left (And.right (And.right (And.right (And.right (And.right (by assumption)))))) | exact And.right (And.right (And.right (And.right (And.right (by assumption))))) | exact And.left (And.right (And.right (And.right (And.right (And.right (And.right (by assumption))))))) | exact And.right (And.right (And.right (And.right (And.right (And.right (by assumption)))))) | exact And.left (And.right (And.right (And.right (And.right (And.right (And.right (And.right (by assumption)))))))) | exact And.right (And.right (And.right (And.right (And.right (And.right (And.right (by assumption))))))) | exact And.left (And.right (And.right (And.right (And.right (And.right (And.right (And.right (And.right (by assumption))))))))) | exact And.right (And.right (And.right (And.right (And.right (And.right (And.right (And.right (by assumption)))))))) | exact And.left (And.right (And.right (And.right (And.right (And.right (And.right (And.right (And.right (And.right (by assumption)))))))))) | exact And.right (And.right (And.right (And.right (And.right (And.right (And.right (And.right (And.right (by assumption))))))))) | exact And.left (And.right (And.right (And.right (And.right (And.right (And.right (And.right (And.right (And.right (And.right (by assumption))))))))))) | exact And.right (And.right (And.right (And.right (And.right (And.right (And.right (And.right (And.right (And.right (by assumption)))))))))) | exact And.left (And.right (And.right (And.right (And.right (And.right (And.right (And.right (And.right (And.right (And.right (And.right (by assumption)))))))))))) | exact And.right (And.right (And.right (And.right (And.right (And.right (And.right (And.right (And.right (And.right (And.right (by assumption))))))))))) | exact And.left (And.right (And.right (And.right (And.right (And.right (And.right (And.right (And.right (And.right (And.right (And.right (And.right (by assumption))))))))))))) | exact And.right (And.right (And.right (And.right (And.right (And.right (And.right (And.right (And.right (And.right (And.right (And.right (by assumption)))))))))))) | exact And.left (And.right (And.right (And.right (And.right (And.right (And.right (And.right (And.right (And.right (And.right (And.right (And.right (And.right (by assumption)))))))))))))) | exact And.right (And.right (And.right (And.right (And.right (And.right (And.right (And.right (And.right (And.right (And.right (And.right (And.right (by assumption)))))))))))))))
  (k_with "cj2" => (first | k_extra "cj" | exact Nat.lt_succ_of_lt (by k_extra "cj") | exact Nat.lt_succ_of_lt (Nat.lt_succ_of_lt (by k_extra "cj")) | exact Nat.lt_succ_self _))
  (k_with "om" => (first | (with_reducible assumption) | (with_reducible exact Nat.ne_of_gt (by k_extra "cj")) | (with_reducible exact Nat.ne_of_lt (by k_extra "cj")) | (with_reducible k_extra "cj2") | (with_reducible exact Nat.ne_of_lt (by k_extra "cj2")) | (with_reducible exact Nat.ne_of_gt (by k_extra "cj2")) | (with_reducible exact Ne.symm (by k_extra "cj")) | omega))
  (k_with "k_ne" => (refine neN ?_; (try dsimp only); k_extra "om"))
  trivial
theorem w_DM_0 : True := by
  (k_with "m_enter" => (((have _ : PySem.Challenge.rw_pb0243_02 = PySem.Challenge.rw_pb0243_02 → hd02.heap_39 = hd02.heap_39 := by k_fill; exact fun _ => rfl); k_dflt (refine' enterM (binds := by k_extra "binds") (by k_asm) (by k_asm) (by k_asm) (by k_asm) (by k_asm) (by exact rfl) (by exact rfl) (by assumption) (by k_is) (by k_is) (by ktr_room) (by first | exact BindsTo.of_eq rfl | (refine' kp_binds (by k_in) (by exact fun _ => rfl))) (by exact locs rfl) ?_ (by exact rfl) (by exact rfl) (by exact rfl) (by decide); k_whole; intro _ _ _ _ _ _ _ _ _ _; (try dsimp only [List.reverse_cons, List.reverse_nil, List.nil_append, List.cons_append, List.length_cons, List.length_nil]); (try k_fold)))))
  (k_with "m_end" => ((iterate 4 (first | (k_unfold; (try dsimp only)) | dsimp only | skip))))
  (k_with "call builtin:len" => ((k_here; (with_reducible show wpAny _ _ (call (Value.builtin "len") [Value.ref _]) _ _ _); (refine' m_len (by k_asm) (by k_mem) (by omega) ?_))))
  (k_with "subscriptTail" => ((k_here; (with_reducible show wpAny _ _ (subscriptTail _ _ (Value.ref _) (Value.int (Nat.cast _) _)) _ _ _); (refine' m_item (by k_asm) (by k_mem) (by assumption) (by omega) ?_))))
  (k_with "pyIter ref" => ((k_here; (rename LoopInv _ => hJ); (rename Fr _ _ _ _ => yF); (rename News _ _ _ _ => yN); (rename IsRange _ _ _ _ _ _ _ _ => rgX); (with_unfolding_all refine' loop_rangeM hJ (by rfl) (by rfl) rgX rfl yF yN ?_ ?_ ?_ ?_))))
  (k_with "TurnPost" => ((dsimp only [TurnPost])))
  (k_with "call ref" => ((k_here; (with_reducible show wpAny _ _ (call (Value.ref 89) [Value.ref _, Value.bytes _ _, Value.int _ _]) _ _ _); k_dflt (refine' MR.use (m_worth ?_ ?_) (by k_asm) (by k_asm) (by k_asm) (by k_asm) (by k_asm) (by first | exact rfl | assumption) (by assumption) (by assumption) (by k_mem) (by k_mem) (by k_mem) (by k_mem) (by ktr_room) (by ktr_units) True.intro ?_; (first | decide | assumption); assumption); rintro _ _ _ _ _ _ ⟨_, rfl⟩; (try k_sweep); (try k_fold))))
  (k_with "exec For Name Call cons nil" => ((refine hold_stop (by assumption) ?_)))
  (k_with "exec For Name Name cons nil" => ((refine hold_stop (by assumption) ?_)))
  (k_with "k_all" => (assumption))
  (k_with "call builtin:list.append" => ((k_here; (try dsimp only [List.nil_append, List.cons_append]); (with_reducible show wpAny _ _ (call (Value.builtin "list.append") [Value.ref _, _]) _ _ _); (refine' m_append (by k_asm) (by k_asm) (by k_upd) (by omega) ?_); intro _ _ _; (try k_sweep))))
  (k_with "call builtin:list.pop" => ((k_here; (try dsimp only [List.nil_append, List.cons_append]); (with_reducible show wpAny _ _ (call (Value.builtin "list.pop") [Value.ref _, Value.int (Nat.cast _) _]) _ _ _); (refine' m_popAt (by k_asm) (by k_asm) (by k_upd) (by assumption) (by omega) ?_); intro _ _ _; (try k_sweep))))
  (k_with "eval ListComp" => ((k_here; (rename CompInv _ => hJ); k_dflt (first | (refine PyProof.Rows.LCg.ListComp_U (F₀ := by k_asm) (by with_unfolding_all rfl) (by decide) (by rfl) (by decide) (by rfl) ?_) | (refine PyProof.Rows.LCt.ListComp_T (F₀ := by k_asm) (by with_unfolding_all rfl) (by decide) (by rfl) (by decide) (by rfl) ?_)))))
  (k_with "exec Assign cons ListComp" => ((k_here; (rename CompInv _ => hJ); k_dflt (first | (refine PyProof.Rows.LCg.Assign_ListComp_U (F₀ := by k_asm) (by rfl) (by with_unfolding_all rfl) (by with_unfolding_all rfl) (by decide) (by rfl) (by decide) (by rfl) (by rfl) (by rfl) ?_) | (refine PyProof.Rows.LCt.Assign_ListComp_T (F₀ := by k_asm) (by rfl) (by with_unfolding_all rfl) (by with_unfolding_all rfl) (by decide) (by rfl) (by decide) (by rfl) (by rfl) (by rfl) ?_)))))
  (k_with "CompSrc" => ((k_here; (rename CompInv _ => hJ); k_dflt (first | (refine' comp_listM hJ (by rfl) (by k_asm) (by k_asm) (by k_mem) ?_ ?_ ?_ ?_) | (refine' comp_rangeM hJ (by rfl) (by k_asm) (by k_asm) (by assumption) (by rfl) ?_ ?_ ?_ ?_)))))
  (k_with "CompSrcT" => ((k_here; (rename CompInv _ => hJ); k_dflt (refine' comp_listTM hJ (by rfl) (by k_asm) (by k_asm) (by k_mem) ?_ ?_ ?_ ?_))))
  (k_with "call builtin:list.index" => ((k_here; (try dsimp only [List.nil_append, List.cons_append]); (with_reducible show wpAny _ _ (call (Value.builtin "list.index") [Value.ref _, Value.int _ _]) _ _ _); (refine' m_index (by is_list) (by assumption) (by omega) (by first | assumption | exact any_mem (by assumption)) ?_))))
  (k_with "m_enterC" => (((have _ : PySem.Challenge.rw_pb0243_02 = PySem.Challenge.rw_pb0243_02 → hd02.heap_39 = hd02.heap_39 := by k_fill; exact fun _ => rfl); k_dflt (refine' enterC (binds := by k_extra "binds") (by k_asm) (by k_asm) (by k_asm) (by k_asm) (by k_asm) (by exact rfl) (by exact rfl) (by assumption) (by k_is) (by k_is) (by ktr_room) (by first | exact BindsTo.of_eq rfl | (refine' kp_binds (by assumption) (by exact fun _ => rfl))) (by exact rfl) (by decide +kernel) ?_ (by exact rfl) (by exact rfl) (by exact rfl); k_whole; intro _ _ _ _ _ _ _ yN yY _ _ _ _ yl1; (try k_lt yl1); k_cells yY; (try simp only [List.cons_append, List.nil_append] at yN); (with_reducible ktr_call "hid" (News _ _ _ _)); (try (revert yl1; intro _)); (try dsimp only); (try k_fold)))))
  (k_with "exec For Name Name cons nil" => ((refine hold_stop (by assumption) ?_)))
  (k_with "pyIter ref" => ((k_here; (rename LoopInvY _ _ _ => hJ); (rename Fr _ _ _ _ => yF); (rename News _ _ _ _ => yN); (with_unfolding_all refine' loop_listY hJ (by rfl) (by rfl) rfl yF yN ?_ ?_ ?_ ?_))))
  (k_with "binaryOp Add bytes bytes" => ((k_here; (with_reducible show wpAny _ _ (binaryOp Operator.Add (Value.bytes _ _) (Value.bytes _ _)) _ _ _); (refine KBy.add_bytes (by first | with_unfolding_all exact Nat.le_trans (Nat.add_le_add (by assumption) (Nat.le_refl _)) (by decide)) ?_); intro _ _)))
  (k_with "compareOp NotEq ref ref" => ((k_here; (with_reducible show wpAny _ _ (compareOp CmpOp.NotEq (Value.ref _) (Value.ref _)) _ _ _); (with_reducible rename News _ _ _ _ => nN'); k_dflt (refine' m_ne_nil2 nN' (by k_mem) (by k_mem) (by ke_room) ?_))))
  (k_with "k_off" => (((try dsimp only [List.take, OffAll]); (repeat' (first | exact True.intro | refine And.intro ?_ ?_ | (refine off4 ?_ ?_ ?_ ?_ <;> k_extra "om"))))))
  (k_with "call ref" => ((k_here; (with_reducible rename Fr _ _ _ _ => yFo); (with_reducible show wpAny _ _ (call (Value.ref 96) [Value.ref _, Value.int _ _]) _ _ _); k_dflt (refine' MR.use (m_ordered ?_ ?_) (by k_asm) (by k_asm) (by k_asm) (by k_asm) (by k_asm) (by first | exact rfl | assumption) (by assumption) (by assumption) (by k_mem) (by k_mem) (by k_mem) (by k_mem) (by ktr_room) (by ktr_units) True.intro ?_; (first | decide | assumption | omega); (first | assumption | omega)); rintro _ _ _ _ yN _ ⟨_, _, _, rfl, yeD, ynD, yeus, _⟩; (have yN2 := led_growZ yFo yN yeD ynD yeus); clear yN yeD ynD; (try simp only [List.cons_append, List.nil_append] at yN2); (with_reducible ktr_call "hid" (News _ _ _ _)); (have yus := yeus); clear yeus; revert yus; intro _; (try k_sweep); (try k_fold))))
  (k_with "call ref" => ((k_here; (with_reducible show wpAny _ _ (call (Value.ref 117) [Value.ref _, Value.int _ _, Value.ref _]) _ _ _); (rename RestK _ => hRK); k_dflt (refine' MC.useK hRK (m_stand ?_) (by k_asm) (by k_asm) (by k_asm) (by k_asm) (by k_asm) (by first | exact rfl | assumption) (by assumption) (by assumption) (by k_mem) (by k_mem) (by k_mem) (by k_mem) (by ktr_room) (by ktr_units) True.intro (by k_extra "k_off") ?_; (first | decide | assumption | omega)); (with_reducible rename Fx _ _ _ => yfxO); rintro _ _ _ _ _ _ _ yN _ ⟨_, _, _, _, _, _, _, _, _, rfl, -, yfx⟩ ⟨rfl, rfl, rfl⟩; (first | (rename FxNext _ _ _ => yfxn; have yfxG := yfxn.fx; clear yfxn) | (have yfxG := Fx.of2 yfx yfxO rfl rfl)); clear yfx; (try simp only [List.cons_append, List.nil_append, List.take] at yN); (with_reducible ktr_call "hid" (Fx _ _ _)); (with_reducible ktr_call "hid" (News _ _ _ _)); (try k_sweep); (try k_fold))))
  (k_with "pyIter ref" => ((refine hold_iter (by assumption) ?_)))
  (k_with "CompSrcT" => ((refine hold_iter (by assumption) ?_)))
  (k_with "CompSrc" => ((refine hold_iter (by assumption) ?_)))
  (k_with "exec Assign cons ListComp" => ((k_here; (rename StopIter => hJ); k_dflt (first | (refine PyProof.Rows.LCt.Assign_ListComp_T (F₀ := by k_asm) (by rfl) (by with_unfolding_all rfl) (by with_unfolding_all rfl) (by decide) (by rfl) (by decide) (by rfl) (by rfl) (by rfl) ?_)))))
  (k_with "exec For Name Call cons nil" => ((k_here; (rename StopIter => hJX); (rename Fr _ _ _ _ => lF'); (with_unfolding_all refine' For_invVF lF' (by exact rfl) (by exact rfl) ?_; k_whole))))
  (k_with "compareOp Gt ref ref" => ((k_here; (with_reducible show wpAny _ _ (compareOp CmpOp.Gt (Value.ref _) (Value.ref _)) _ _ _); (with_reducible rename News _ _ _ _ => nN'); (with_reducible rename Fr _ _ _ _ => nF'); k_dflt (refine' m_tup_gt nF' nN' (by k_mem) (by assumption) (by ke_room) ?_))))
  (k_with "compareOp NotIn str ref" => ((k_here; (with_reducible show wpAny _ _ (compareOp CmpOp.NotIn (Value.str _ _) (Value.ref _)) _ _ _); (with_reducible rename Fr _ _ _ _ => nF'); k_dflt (refine' notin_tuple_strs (isTupOf (nF'.keep _ _ (by assumption))) (by exact .cons _ _ (.cons _ _ .nil)) ?_))))
  (k_with "call ref" => ((k_here; (with_reducible show wpAny _ _ (call (Value.ref 124) [Value.ref _, Value.str _ _]) _ _ _); (rename RestK _ => hRK); (with_reducible rename News _ _ _ _ => yN); (with_reducible rename Fr _ _ _ _ => yF); (have ywas := Was.mk yF yN); k_dflt (refine' MC.useK hRK (m_lose) (by k_asm) (by k_asm) (by k_asm) (by k_asm) (by k_asm) (by first | exact rfl | assumption) (by assumption) (by assumption) (by k_mem) (by k_mem) (by k_mem) (by k_mem) (by ktr_room) (by ktr_units) True.intro (by k_extra "k_off") ?_); (with_reducible ktr_call "hid" (Was _ _ _ _ _)); intro _ _ _ _ _ _ _ _ _ _ _; (try k_sweep))))
  (k_with "subscriptTail" => ((k_here; (with_reducible show wpAny _ _ (subscriptTail _ (Expr.Slice _ _ none _) (Value.bytes _ _) (Value.ref _)) _ _ _); (with_reducible rename Fr _ _ _ _ => yF); (with_reducible rename News _ _ _ _ => yN); (refine KBc.slice_K (s := ⟨_, _, _, _, _⟩) yF yN rfl (by constructor) (by constructor) (by rw [KBw.ints_length]; omega) ?_); intro _ _ _ _ _ _; (try k_sweep))))
  (k_with "call ref" => ((k_here; (with_reducible show wpAny _ _ (call (Value.ref 129) [Value.ref _, Value.ref _, Value.int _ _]) _ _ _); (rename RestK _ => hRK); (with_reducible rename News _ _ _ _ => yN); (with_reducible rename Fr _ _ _ _ => yF); (have ywas := Was.mk yF yN); k_dflt (refine' MC.useK hRK (m_found ?_ ?_ ?_ ?_ ?_) (by k_asm) (by k_asm) (by k_asm) (by k_asm) (by k_asm) (by first | exact rfl | assumption) (by assumption) (by assumption) (by k_mem) (by k_mem) (by k_mem) (by k_mem) (by ktr_room) (by ktr_units) (by first | exact ⟨(yN (_, _) (by k_mem)).1, by assumption⟩) (by k_extra "k_off") ?_; rotate_left; assumption; assumption; assumption; assumption; assumption); (with_reducible ktr_call "hid" (Was _ _ _ _ _)); rintro _ _ _ _ _ _ _ yN' _ _ _; (try simp only [List.append_nil, List.take] at yN'); (with_reducible ktr_call "hid" (News _ _ _ _)); (try k_sweep))))
  (k_with "eval ListComp" => ((refine hold_stop (by assumption) ?_)))
  (k_with "call ref" => ((k_here; (with_reducible show wpAny _ _ (call (Value.ref 208) _) _ _ _); k_dflt ((refine' call_cls (by k_asm) (by k_asm) (by k_asm) (by k_is) (by k_is) (by k_is) ?_; k_whole; intro _ _ _ _ _ yl1 yl2; (try k_lt yl1); (try k_lt2 yl2); revert yl1 yl2; intro _ _; (try k_sweep); (refine' code_defC (by k_asm) (by k_asm) (by k_asm) (by k_asm) (by k_asm) (by exact rfl) (by exact rfl) (by first | exact rfl | assumption) (by k_is) (by k_is) (by first | ktr_room | k_room) (by exact BindsTo.of_eq rfl) (by exact rfl) (by decide +kernel) ?_ (by exact rfl) (by exact rfl) (by exact rfl); k_whole; intro _ _ _ _ _ _ _ yN' yY _ _ _ yl1; (try k_lt yl1); k_cells yY; (try simp only [List.cons_append, List.nil_append] at yN'); (with_reducible ktr_call "hid" (News _ _ _ _)); (try (revert yl1; intro _)); (try dsimp only); (try k_fold)))))))
  trivial
theorem off_one {a c : Addr} {o : Obj} (h : @Ne Nat a c) : a ∉ [((c, o) : Addr × Obj)].map (·.1) := fun q => h (List.mem_singleton.mp q)
theorem m_make {w : World} {acc mode : Str} (hmd : mode = Str.ofString "i-o" ∨ mode = Str.ofString "input") {tm ta : Tok} {cA : Addr} {cs : List (Bytes × Tok)} {nc : Nat} (hsz : ∀ r ∈ cs, r.1.size ≤ 1000) (hl : cs.length ≤ 50)
  {p : Program} {loose : List Str} {mean : ExcName → Option Value} {mg mb : Str → Option Value} {dp un : Nat} {gd : Option (List Code)} {cn : Str} {cs' : Scope} {a : Addr} {ccd : Value} {cl : List (Str × Addr)} {outer : List Env} {A₀ : Around} {base h₀ : Heap} {L : Addr} {m : Str → Option Value} {s : Shared} {Q E : Value → Shared → Prop}
    (B : Below A₀ base outer h₀) (F : Fr h₀ L s.heap m) (X : (hd02.heap_39 w.params).In h₀) (N : News h₀ L s.heap [(cA, listOf (cs.map rv).toArray nc)]) (T : Top p loose mean mg mb h₀) (hk : cs'.kind = .function) (hd : dp + 12 < recursionLimit) (hu : un + 130 < cLine)
    (hret : ∀ (I : Ids) (st : St) (atv : Value) (h' : Heap) (tk' : Nat) (tk2 : Nat → Tok) (tm2 ta2 tn2 tw2 tl2 : Tok) (hi2 : Value) (nc2 ns2 : Nat) (X : List (Addr × Obj)), I.cA = cA → I.mode = mode → I.acc = acc → Made st cs → AtX I X atv #[] (-1) → Fr h₀ L h' m → News h₀ L h' (led4T w I st tk2 tm2 ta2 tn2 tw2 tl2 atv hi2 nc2 ns2 X) → Own I st X →
      (∀ b o, s.heap.get? b = some o → h'.get? b = some o) → s.heap.get? I.x = none ∧ s.heap.get? I.dx = none ∧ s.heap.get? I.sA = none → (∀ p ∈ X, s.heap.get? p.1 = none) → Q (.ref I.x) { s with heap := h', toks := tk' }) :
    wpAny (model prog w) (ktrTop dp un gd cn cs' L a ccd cl outer) (call (.ref 220) [.ref cA, .str mode tm, .str acc ta]) Q E s := by
  (k_with "binds" => exact ([(Str.ofString "content", .ref cA), (Str.ofString "mode", .str mode tm), (Str.ofString "access", .str acc ta)]))
  k_extra "m_enter"
  rename_i g L₁ h₁ FG F₁ N₁ B₁ X₁ T₁ G
  have m1 : (mode == Str.ofString "extend") = false := by rcases hmd with rfl | rfl <;> decide
  have m2 : (mode == Str.ofString "output") = false := by rcases hmd with rfl | rfl <;> decide
  have hS : StopFor := ⟨⟩
  k_steps
  rename StopFor => hS0; clear hS0
  unfold Hold
  with_reducible rename News _ _ _ _ => N2
  have hJ : CompInv (fun i ys nx => ∃ rs : List MRow, nx = ledOf N2 ++ rs.map MRow.ent ∧ ys = rs.map (fun r => Value.ref r.a) ∧ rs.map (·.i) = ((List.range i).map fun (k : Nat) => (k : Int)) ∧ ∀ p ∈ rs.map MRow.ent, Newer p.1 (ledOf N2)) := ⟨⟩
  dsimp only [ledOf] at hJ
  k_steps
  · unfold Hold; omega
  · exact ⟨[], (List.append_nil _).symm, rfl, rfl, fun _ h => by cases h⟩
  · unfold Hold
    rintro i ti ys _ I' oI C oC D m₂ h tk E' hi' ⟨rs, rfl, rfl, hrs, hra⟩ hns hm₂ F2 N2 off ne3
    k_steps
    with_reducible rename Fr _ _ _ _ => mF
    with_reducible rename News _ _ _ _ => mN
    with_reducible rename _ ∧ _ => l1
    exact comp_push mF mN off l1.2.1 l1.2.2.1 l1.2.2.2.1 ⟨rs ++ [⟨_, i, ti, 0⟩], by rw [List.map_append]; rfl, by rw [List.map_append]; rfl, by rw [List.map_append, hrs, List.range_succ, List.map_append]; rfl, fun p hp => by
      rw [List.map_append] at hp
      rcases List.mem_append.mp hp with hp | hp
      · exact hra p hp
      · rw [List.mem_singleton.mp hp]; exact Newer.of (allLt_left l1.2.2.2.2)⟩
  · unfold Hold
    rintro gg ys _ ⟨rs, rfl, rfl, hrs, hra⟩ D h tk F2 N2 off
    rename CompInv _ => z; clear z
    simp only [List.cons_append, List.nil_append] at N2 off
    have hT : ∀ p ∈ rs.map MRow.ent, @Ne Nat p.1 _ := fun p hp => Nat.ne_of_gt (hra p hp _ (.tail _ (.tail _ (.tail _ (.tail _ (.tail _ (.tail _ (.head _))))))))
    dsimp only at hT
    have hD1 : ∀ p ∈ rs.map MRow.ent, @Ne Nat p.1 D := fun p hp => off1_mem off p (.tail _ (.tail _ (.tail _ (.tail _ (.tail _ (.tail _ (.tail _ (.tail _ (.tail _ (.tail _ (.tail _ hp)))))))))))
    simp only [PyProof.Rows.LCg.Off1] at off
    k_steps
    with_reducible rename News _ _ _ _ => mN
    with_reducible rename Fr _ _ _ _ => mF
    obtain ⟨I, st, tk2, tm2, ta2, tn2, tw2, tl2, hi2, nc2, ns2, X, e1, e2, e3, e4, e5, e6, md, at_, nl, ow, xc⟩ := make_end mN hsz hl hrs (by k_extra "om") (by k_extra "om") (by k_extra "om") (by k_extra "om") (by k_extra "om") (by k_extra "om") (by k_extra "om") (by k_extra "om") (by k_extra "om") (by k_extra "om") (by k_extra "om") (by k_extra "om") (by k_extra "om") (by k_extra "om") fun r hr => ⟨hra _ (List.mem_map_of_mem (f := MRow.ent) hr) _ (.tail _ (.tail _ (.tail _ (.tail _ (.tail _ (.head _)))))), hD1 _ (List.mem_map_of_mem (f := MRow.ent) hr)⟩
    rw [← e1]
    exact ⟨_, _, mF, hret I st _ _ _ tk2 tm2 ta2 tn2 tw2 tl2 hi2 nc2 ns2 X e4 e5 e6 md at_ (Fr.back FG mF) (News.back FG nl) ow (keep_all N G mF (fun p hp => by
        rw [List.mem_singleton.mp hp]
        exact mN _ (.tail _ (.tail _ (.tail _ (.tail _ (.tail _ (.tail _ (.tail _ (.tail _ (.tail _ (.tail _ (.tail _ (.tail _ (.head _)))))))))))))))
      ⟨by rw [e1]; exact new_none G mN (.tail _ (.tail _ (.tail _ (.tail _ (.tail _ (.tail _ (.tail _ (.head _)))))))) (off_one (by k_extra "om")), by rw [e2]; exact new_none G mN (.tail _ (.tail _ (.tail _ (.tail _ (.tail _ (.tail _ (.tail _ (.tail _ (.head _))))))))) (off_one (by k_extra "om")), by rw [e3]; exact new_none G mN (.tail _ (.head _)) (off_one (by k_extra "om"))⟩
      (fun p hp => new_none G nl (.tail _ (.tail _ (.tail _ (.tail _ hp)))) (off_one (xc p hp)))⟩

theorem w_DU : True := by
  k_with_none
  (k_with "eval Name" => (k_here; k_dflt (refine' nameX_L (by k_asm) (by rfl) ?_ (by rfl) (by rfl); k_whole)))
  (k_with "cj" => (first | assumption | exact And.left (by assumption) | exact And.left (And.right (by assumption)) | exact And.right (by assumption) | exact And.left (And.right (And.right (by assumption))) | exact And.right (And.right (by assumption)) | exact And.left (And.right (And.right (And.right (by assumption)))) | exact And.right (And.right (And.right (by assumption))) | exact And.left (And.right (And.right (And.right (And.right (by assumption))))) | exact And.right (And.right (And.right (And.right (by assumption)))) | exact And.left (And.right (And.right (And.right (And.right (And.right (by assumption)))))) | exact And.right (And.right (And.right (And.right (And.right (by assumption))))) | exact And.left (And.right (And.right (And.right (And.right (And.right (And.right (by assumption))))))) | exact And.right (And.right (And.right (And.right (And.right (And.right (by assumption)))))) | exact And.left (And.right (And.right (And.right (And.right (And.right (And.right (And.right (by assumption)))))))) | exact And.right (And.right (And.right (And.right (And.right (And.right (And.right (by assumption))))))) | exact And.left (And.right (And.right (And.right (And.right (And.right (And.right (And.right (And.right (by assumption))))))))) | exact And.right (And.right (And.right (And.right (And.right (And.right (And.right (And.right (by assumption)))))))) | exact And.left (And.right (And.right (And.right (And.right (And.right (And.right (And.right (And.right (And.right (by assumption)))))))))) | exact And.right (And.right (And.right (And.right (And.right (And.right (And.right (And.right (And.right (by assumption))))))))) | exact And.left (And.right (And.right (And.right (And.right (And.right (And.right (And.right (And.right (And.right (And.right (by assumption))))))))))) | exact And.right (And.right (And.right (And.right (And.right (And.right (And.right (And.right (And.right (And.right (by assumption)))))))))) | exact And.left (And.right (And.right (And.right (And.right (And.right (And.right (And.right (And.right (And.right (And.right (And.right (by assumption)))))))))))) | exact And.right (And.right (And.right (And.right (And.right (And.right (And.right (And.right (And.right (And.right (And.right (by assumption))))))))))) | exact And.left (And.right (And.right (And.right (And.right (And.right (And.right (And.right (And.right (And.right (And.right (And.right (And.right (by assumption))))))))))))) | exact And.right (And.right (And.right (And.right (And.right (And.right (And.right (And.right (And.right (And.right (And.right (And.right (by assumption)))))))))))) | exact And.left (And.right (And.right (And.right (And.right (And.right (And.right (And.right (And.right (And.right (And.right (And.right (And.right (And.right (by assumption)))))))))))))) | exact And.right (And.right (And.right (And.right (And.right (And.right (And.right (And.right (And.right (And.right (And.right (And.right (And.right (by assumption)))))))))))))))
  (k_with "cj2" => (first | k_extra "cj" | exact Nat.lt_succ_of_lt (by k_extra "cj") | exact Nat.lt_succ_of_lt (Nat.lt_succ_of_lt (by k_extra "cj")) | exact Nat.lt_succ_self _))
  (k_with "om" => (first | (with_reducible assumption) | (with_reducible exact Nat.ne_of_gt (by k_extra "cj")) | (with_reducible exact Nat.ne_of_lt (by k_extra "cj")) | (with_reducible k_extra "cj2") | (with_reducible exact Nat.ne_of_lt (by k_extra "cj2")) | (with_reducible exact Nat.ne_of_gt (by k_extra "cj2")) | (with_reducible exact Ne.symm (by k_extra "cj")) | omega))
  (k_with "k_ne" => (refine neN ?_; (try dsimp only); k_extra "om"))
  trivial
section
variable {w : World} {I : Ids} {f : Addr} {d u : Nat} {args : List Value} {st : St} {atv : Value} {Pre : Heap → Prop} {Post2 : Heap → Value → St → Value → Heap → Prop}
  {p : Program} {loose : List Str} {mean : ExcName → Option Value} {mg mb : Str → Option Value} {dp un : Nat} {gd : Option (List Code)} {cn : Str} {cs : Scope} {a : Addr} {ccd : Value} {cl : List (Str × Addr)} {outer : List Env} {A₀ : Around} {base h₀ : Heap} {L : Addr} {m : Str → Option Value} {news X : List (Addr × Obj)} {s : Shared} {Q E : Value → Shared → Prop}
  {tk : Nat → Tok} {tm ta tn tw tl : Tok} {hi : Value} {nc ns : Nat}
theorem Own.sub {st' : St} (o : Own I st X) {h : Heap} (fx : Fx h I st') (hs : ∀ r ∈ st'.rows, r ∈ st.rows) : Own I st' X :=
  ⟨o.1, o.2.1, fun g L h' N => have x := o.2.2 g L h' N; ⟨x.keys, fun r hr => x.rows r (hs r hr), fx.size, fx.len, fx.rlen, fx.rv3, fx.wh⟩⟩
theorem useL {k : Nat} (_ : RestK k) (o : Own I st X) (C : MC w I f d u args st atv Pre Post2) (hsub : ∀ {h v st' atv' h'}, Post2 h v st' atv' h' → ∀ r ∈ st'.rows, r ∈ st.rows)
    (B : Below A₀ base outer h₀) (F : Fr h₀ L s.heap m) (K : (hd02.heap_39 w.params).In h₀) (N : News h₀ L s.heap news) (T : Top p loose mean mg mb h₀) (hk : cs.kind = .function)
    (h1 : (I.x, instObj 208 I.dx) ∈ news) (h2 : (I.dx, dictOf (kd w I tk (.str I.mode tm) (.str I.acc ta) (.int st.next tn) (.int st.which tw) atv (.bool st.nowhere) (.int st.last tl) hi) 11) ∈ news)
    (h3 : (I.cA, listOf (st.cs.map fun r => Value.bytes r.1 r.2).toArray nc) ∈ news) (h4 : (I.sA, listOf (st.rows.map fun r => Value.ref r.a).toArray ns) ∈ news) (hx : ∀ q ∈ X, q ∈ news)
    (hd : dp + d < recursionLimit) (hu : un + u < cLine) (pre : Pre s.heap) (hr : OffAll I (news.take k))
    (ret : ∀ v st' atv' h' tk' tk2 tm2 ta2 tn2 tw2 tl2 hi2 nc2 ns2, Fr h₀ L h' m → News h₀ L h' (news.take k ++ led4T w I st' tk2 tm2 ta2 tn2 tw2 tl2 atv' hi2 nc2 ns2 X) → GSub s.heap h' I.adr → Own I st' X → Post2 s.heap v st' atv' h' → Q v { s with heap := h', toks := tk' }) :
    wpAny (model prog w) (ktrTop dp un gd cn cs L a ccd cl outer) (call (.ref f) args) Q E s := by
  have N4 := led_news N h1 h2 h3 h4
  have NX : News h₀ L s.heap X := fun q hq => N q (hx q hq)
  refine C.say B F K N4 T hk hd hu ⟨tk, tm, ta, tn, tw, tl, hi, nc, ns, rfl, o.1, o.2.2 _ _ _ NX⟩ pre fun v st' atv' h' tk' led' F' N' G KF' po => ?_
  obtain ⟨tk2, tm2, ta2, tn2, tw2, tl2, hi2, nc2, ns2, rfl, ok', fx'⟩ := KF'
  refine ret v st' atv' h' tk' tk2 tm2 ta2 tn2 tw2 tl2 hi2 nc2 ns2 F' (fun q hq => ?_) G (o.sub fx' (hsub po)) po
  have stay : ∀ q ∈ news, q.1 ∉ I.adr → h'.get? q.1 = some q.2 ∧ q.1 ≠ L ∧ h₀.get? q.1 = none := fun q hq hn => ⟨G _ _ (N q hq).1 hn, (N q hq).2⟩
  rcases List.mem_append.mp hq with hq | hq
  · exact stay q (List.mem_of_mem_take hq) (hr.at _ q hq)
  rcases List.mem_cons.mp hq with rfl | hq
  · exact N' _ (.head _)
  rcases List.mem_cons.mp hq with rfl | hq
  · exact N' _ (.tail _ (.head _))
  rcases List.mem_cons.mp hq with rfl | hq
  · exact N' _ (.tail _ (.tail _ (.head _)))
  rcases List.mem_cons.mp hq with rfl | hq
  · exact N' _ (.tail _ (.tail _ (.tail _ (.head _))))
  · exact stay q (hx q hq) (o.2.1 q hq)
end
/-- a loop over a list of the ledger, names and all -/
structure LoopInvZ (D : Addr) (lo : Obj) (J : Nat → (Str → Option Value) → List (Addr × Obj) → Prop) : Prop where
structure LoopInvC (t : Addr) (lo : Obj) (J : Nat → (Str → Option Value) → List (Addr × Obj) → Prop) : Prop where
section
variable {prog : Program} {w : World} {A : Around} {h₀ : Heap} {L : Addr} {env : Env} {x : Str} {target : PySem.Expr} {body : List Stmt} {s : Shared} {E : Value → Shared → Prop} {m₀ : Str → Option Value} {news : List (Addr × Obj)}
theorem loop_listZ {D : Addr} {lo : Obj} {k : Nat} {vs : List Value} {J : Nat → (Str → Option Value) → List (Addr × Obj) → Prop} {Q : Flow → Shared → Prop} (_hJ : LoopInvZ D lo J) (hL : env.locals = L)
    (hh : A.handled = none) (elo : lo = listOf vs.toArray k) (F : Fr h₀ L s.heap m₀) (N : News h₀ L s.heap news) (hJD : Hold (∀ i m nx, J i m nx → (D, lo) ∈ nx)) (hj : Hold (J 0 m₀ news))
    (turn : Hold (∀ (I : Addr) i v m₁ news₁ h tk itO, vs[i]? = some v → (∀ p ∈ news₁, p.1 ≠ I) → J i m₁ news₁ → Fr h₀ L h (fun y => if y = x then some v else m₁ y) → News h₀ L h ((I, itO) :: news₁) →
      wpAny (model prog w) A (execs body env) (TurnPost h₀ L (I, itO) (J (i + 1)) { s with heap := h, toks := tk } Q) E { s with heap := h, toks := tk }))
    (done : Hold (∀ m₁ news₁ h tk, J vs.length m₁ news₁ → Fr h₀ L h m₁ → News h₀ L h news₁ → Q .next { s with heap := h, toks := tk })) :
    wpAny (model prog w) A (pyIter (.ref D)) (fun it s₂ => LoopAtV prog w A h₀ env x body Q E it s₂) E s := by
  subst hL
  exact loop_list J hh elo hJD F N hj turn done
/-- a loop over a tuple, any target -/
theorem loop_tupC {t : Addr} {lo : Obj} {vs : List Value} {n : Nat} {J : Nat → (Str → Option Value) → List (Addr × Obj) → Prop} {Q : Flow → Shared → Prop} (_hJ : LoopInvC t lo J) (hL : env.locals = L)
    (hh : A.handled = none) (hc : lo.cls = .type "tuple") (hd : lo.data = .seq vs.toArray n) (F : Fr h₀ L s.heap m₀) (N : News h₀ L s.heap news)
    (src : Hold (∀ i m nx h', J i m nx → (∀ b o, h₀.get? b = some o → h'.get? b = some o) → News h₀ L h' nx → h'.get? t = some lo)) (hj : Hold (J 0 m₀ news))
    (turn : Hold (∀ (I : Addr) i v m₁ news₁ h tk itO, vs[i]? = some v → (∀ p ∈ news₁, p.1 ≠ I) → J i m₁ news₁ → Fr h₀ L h m₁ → News h₀ L h ((I, itO) :: news₁) →
      wpAny (model prog w) A (assign target env v) (fun _ s₃ => wpAny (model prog w) A (execs body env) (TurnPost h₀ L (I, itO) (J (i + 1)) { s with heap := h, toks := tk } Q) E s₃) E { s with heap := h, toks := tk }))
    (done : Hold (∀ m₁ news₁ h tk, J vs.length m₁ news₁ → Fr h₀ L h m₁ → News h₀ L h news₁ → Q .next { s with heap := h, toks := tk })) :
    wpAny (model prog w) A (pyIter (.ref t)) (fun it s₂ => TurnsAt prog w A h₀ env target body Q E it s₂) E s := by
  subst hL
  unfold Hold at src hj turn done
  have et := src 0 m₀ news s.heap hj F.keep N
  have ht : s.heap.IsTuple t vs.toArray := ⟨lo, et, hc, n, hd⟩
  have hlt : t < s.heap.objs.size := Heap.lt_size et
  have htL : t ≠ env.locals := fun e => by
    obtain ⟨oL, _, _, eL, _⟩ := F.ns
    have e2 := src 0 m₀ news s.heap hj F.keep N
    rw [e] at e2
    by_cases hb : h₀.get? env.locals = none
    · exact absurd e2 (by
        intro e2
        rw [e2] at eL
        cases eL
        rename_i h3
        obtain ⟨h4, _⟩ := h3
        rw [hd] at h4
        cases h4)
    · exact hb (Heap.get?_none_of_le F.above)
  refine wpAny_pyIter_tuple ht ?_
  have W := Walks.tuple (prog := prog) (w := w) hh s.heap.objs.size t (Nat.ne_of_lt hlt) vs.toArray
  rw [show vs.toArray.size = vs.length from List.size_toArray] at W
  refine ⟨s.heap.objs.size, _, _, vs.length, _, _, _, m₀, news, J, rfl, KTurns.ofWalks W fun i v s Q E st q => letGo_tupleiter st.1 q, ?_, fun b hb => ?_, fun p hp hb => ?_, ⟨⟨_, Heap.get?_push_size _ rfl, rfl, rfl⟩, ht.push _⟩, F.push _, fun p hp => ⟨Heap.get?_push_of_some _ (N p hp).1, (N p hp).2⟩, hj, ?_, ?_⟩
  · intro hm
    rcases List.mem_cons.mp hm with e | hm
    · exact absurd F.ns.lt (e ▸ Nat.lt_irrefl _)
    · exact htL (List.mem_singleton.mp hm).symm
  · rw [List.mem_singleton.mp hb]; exact next_is_new F
  · have := Heap.lt_size (N p hp).1
    rw [List.mem_singleton.mp hb] at this
    exact absurd this (Nat.lt_irrefl _)
  · rintro i v m₁ news₁ h₁ tk₁ own hi hP hJ hnw ho1 ho2 ho3 st F₁ N₁
    obtain ⟨⟨itO, eit, _⟩, _⟩ := id st
    have hin := ho3 s.heap.objs.size (by simp) (next_is_new F) itO eit
    have Ni : News h₀ env.locals h₁ ((s.heap.objs.size, itO) :: news₁) := fun p hp => by
      rcases List.mem_cons.mp hp with rfl | hp
      · exact N₁ _ (List.mem_append_left _ hin)
      · exact N₁ _ (List.mem_append_right _ hp)
    refine wpAny_mono (turn s.heap.objs.size i v m₁ news₁ h₁ tk₁ itO (by simpa using hP) (fun p hp e => hnw p hp (List.mem_singleton.mpr e)) hJ F₁ Ni) (fun _ s₃ z => wpAny_mono z (fun f s₂ z => ?_) fun _ _ e => e) fun _ _ e => e
    have fin : TurnEnd h₀ env.locals (s.heap.objs.size, itO) (J (i + 1)) { s with heap := h₁, toks := tk₁ } s₂ → LoopStepU h₀ env.locals [s.heap.objs.size] own (J (i + 1)) { s with heap := h₁, toks := tk₁ } .next s₂ := by
      rintro ⟨h', tk', m', news', e, F', N', hn, hj'⟩
      refine ⟨rfl, h', tk', m', news', e, F', fun p hp => ?_, fun p hp hb => hn p hp (List.mem_singleton.mp hb), hj'⟩
      rcases List.mem_append.mp hp with q | q
      · refine ⟨?_, (N₁ p (List.mem_append_left _ q)).2⟩
        have e2 := ho2 p q
        rcases List.mem_cons.mp (ho1 p q) with e1 | e1
        · have e3 := (N' _ (.head _)).1
          rw [e1] at e2 ⊢
          rw [eit] at e2
          cases e2
          exact e3
        · have e1 := List.mem_singleton.mp e1
          have e4 := src i m₁ news₁ h₁ hJ F₁.keep (fun q hq => N₁ q (List.mem_append_right _ hq))
          have e5 := src (i + 1) m' news' h' hj' F'.keep (fun q hq => N' q (.tail _ hq))
          rw [e1] at e2 ⊢
          rw [e4] at e2
          cases e2
          exact e5
      · exact N' p (List.mem_cons_of_mem _ q)
    cases f with
    | ret v => exact .ret z
    | brk => exact .brk z
    | next => exact .next (fin z)
    | cont => exact .cont (fin z)
  · rintro h' tk m' news' F' N' _ hJ
    exact done m' news' h' tk hJ F' N'
end

theorem w_LR : True := by
  k_with_none
  (k_with "eval Name" => (k_here; k_dflt (refine' nameX_L (by k_asm) (by rfl) ?_ (by rfl) (by rfl); k_whole)))
  (k_with "cj" => (first | assumption | exact And.left (by assumption) | exact And.left (And.right (by assumption)) | exact And.right (by assumption) | exact And.left (And.right (And.right (by assumption))) | exact And.right (And.right (by assumption)) | exact And.left (And.right (And.right (And.right (by assumption)))) | exact And.right (And.right (And.right (by assumption))) | exact And.left (And.right (And.right (And.right (And.right (by assumption))))) | exact And.right (And.right (And.right (And.right (by assumption)))) | exact And.left (And.right (And.right (And.right (And.right (And.right (by assumption)))))) | exact And.right (And.right (And.right (And.right (And.right (by assumption))))) | exact And.left (And.right (And.right (And.right (And.right (And.right (And.right (by assumption))))))) | exact And.right (And.right (And.right (And.right (And.right (And.right (by assumption)))))) | exact And.left (And.right (And.right (And.right (And.right (And.right (And.right (And.right (by assumption)))))))) | exact And.right (And.right (And.right (And.right (And.right (And.right (And.right (by assumption))))))) | exact And.left (And.right (And.right (And.right (And.right (And.right (And.right (And.right (And.right (by assumption))))))))) | exact And.right (And.right (And.right (And.right (And.right (And.right (And.right (And.right (by assumption)))))))) | exact And.left (And.right (And.right (And.right (And.right (And.right (And.right (And.right (And.right (And.right (by assumption)))))))))) | exact And.right (And.right (And.right (And.right (And.right (And.right (And.right (And.right (And.right (by assumption))))))))) | exact And.left (And.right (And.right (And.right (And.right (And.right (And.right (And.right (And.right (And.right (And.right (by assumption))))))))))) | exact And.right (And.right (And.right (And.right (And.right (And.right (And.right (And.right (And.right (And.right (by assumption)))))))))) | exact And.left (And.right (And.right (And.right (And.right (And.right (And.right (And.right (And.right (And.right (And.right (And.right (by assumption)))))))))))) | exact And.right (And.right (And.right (And.right (And.right (And.right (And.right (And.right (And.right (And.right (And.right (by assumption))))))))))) | exact And.left (And.right (And.right (And.right (And.right (And.right (And.right (And.right (And.right (And.right (And.right (And.right (And.right (by assumption))))))))))))) | exact And.right (And.right (And.right (And.right (And.right (And.right (And.right (And.right (And.right (And.right (And.right (And.right (by assumption)))))))))))) | exact And.left (And.right (And.right (And.right (And.right (And.right (And.right (And.right (And.right (And.right (And.right (And.right (And.right (And.right (by assumption)))))))))))))) | exact And.right (And.right (And.right (And.right (And.right (And.right (And.right (And.right (And.right (And.right (And.right (And.right (And.right (by assumption)))))))))))))))
  (k_with "cj2" => (first | k_extra "cj" | exact Nat.lt_succ_of_lt (by k_extra "cj") | exact Nat.lt_succ_of_lt (Nat.lt_succ_of_lt (by k_extra "cj")) | exact Nat.lt_succ_self _))
  (k_with "om" => (first | (with_reducible assumption) | (with_reducible exact Nat.ne_of_gt (by k_extra "cj")) | (with_reducible exact Nat.ne_of_lt (by k_extra "cj")) | (with_reducible k_extra "cj2") | (with_reducible exact Nat.ne_of_lt (by k_extra "cj2")) | (with_reducible exact Nat.ne_of_gt (by k_extra "cj2")) | (with_reducible exact Ne.symm (by k_extra "cj")) | omega))
  (k_with "k_ne" => (refine neN ?_; (try dsimp only); k_extra "om"))
  trivial
section
variable {prog : Program} {w : World} {A : Around} {E : Value → Shared → Prop} {s : Shared} {h₀ : Heap} {L : Addr} {m : Str → Option Value} {news : List (Addr × Obj)}
theorem eqAt_bytes (a : Bytes) (t : Tok) (b : Bytes) (u : Tok) : PySem.SeqAt.EqAt A s (.bytes a t) (.bytes b u) (a.toList == b.toList) := fun _ _ _ _ h => eqBool_bytes h
noncomputable def eqTo (b : Bytes) : Value → Bool
  | .bytes a _ => a.toList == b.toList
  | _ => false
theorem toList_beq (a b : Bytes) : (a.toList == b.toList) = decide (a = b) := by
  by_cases h : a = b
  · subst h; simp
  · have : a.toList ≠ b.toList := fun e => h (Array.toList_inj.mp e)
    simp [h, this]
theorem m_notin {D : Addr} {cs : List (Bytes × Tok)} {n : Nat} {b : Bytes} {t : Tok} {Q : Value → Shared → Prop} (N : News h₀ L s.heap news) (hm : (D, listOf (cs.map rv).toArray n) ∈ news)
    (h : Q (.bool (decide (b ∉ cs.map (·.1)))) s) : wpAny (model prog w) A (compareOp .NotIn (.bytes b t) (.ref D)) Q E s := by
  refine PySem.SeqAt.notIn_listAt (eqTo b) (isListOf (N _ hm).1) (fun y hy => ?_) ?_
  · obtain ⟨r, _, rfl⟩ := List.mem_map.mp (List.mem_toArray.mp hy)
    exact eqAt_bytes _ _ _ _
  · have e : (!(cs.map rv).toArray.any (eqTo b)) = decide (b ∉ cs.map (·.1)) := by
      rw [List.any_toArray, List.any_map]
      have : (cs.any (eqTo b ∘ rv)) = decide (b ∈ cs.map (·.1)) := by
        rw [Bool.eq_iff_iff, List.any_eq_true, decide_eq_true_iff, List.mem_map]
        constructor
        · rintro ⟨r, hr, e⟩
          have e : (r.1.toList == b.toList) = true := e
          rw [toList_beq, decide_eq_true_iff] at e
          exact ⟨r, hr, e⟩
        · rintro ⟨r, hr, e⟩
          refine ⟨r, hr, ?_⟩
          show (r.1.toList == b.toList) = true
          rw [toList_beq, decide_eq_true_iff]; exact e
      rw [this]
      by_cases hb : b ∈ cs.map (·.1) <;> simp [hb]
    rw [e]; exact h
theorem lists_all {xs ys : List (Bytes × Tok)} (hz : xs.length = ys.length) : ((List.range (xs.map rv).toArray.size).all fun j => (xs.getD j default).1.toList == (ys.getD j default).1.toList) = decide (xs.map (·.1) = ys.map (·.1)) := by
  rw [Bool.eq_iff_iff, List.all_eq_true, decide_eq_true_iff]
  simp only [List.size_toArray, List.length_map, List.mem_range]
  constructor
  · intro h
    refine List.ext_getElem (by simpa using hz) fun j h1 h2 => ?_
    have h1 : j < xs.length := by simpa using h1
    have h2 : j < ys.length := by simpa using h2
    have := h j h1
    rw [toList_beq, decide_eq_true_iff, List.getD_eq_getElem?_getD, List.getD_eq_getElem?_getD, List.getElem?_eq_getElem h1, List.getElem?_eq_getElem h2] at this
    simpa using this
  · intro h j hj
    have h2 : j < ys.length := by omega
    rw [toList_beq, decide_eq_true_iff, List.getD_eq_getElem?_getD, List.getD_eq_getElem?_getD, List.getElem?_eq_getElem hj, List.getElem?_eq_getElem h2]
    have e := congrArg (fun l => l[j]?) h
    simp only [List.getElem?_map, List.getElem?_eq_getElem hj, List.getElem?_eq_getElem h2, Option.map_some, Option.some.injEq] at e
    simpa using e
theorem lists_at {xs ys : List (Bytes × Tok)} : ∀ j (h1 : j < (xs.map rv).toArray.size) (h2 : j < (ys.map rv).toArray.size), PySem.SeqAt.EqAt A s (xs.map rv).toArray[j] (ys.map rv).toArray[j] ((xs.getD j default).1.toList == (ys.getD j default).1.toList) := fun j h1 h2 => by
  have h1' : j < xs.length := by simpa using h1
  have h2' : j < ys.length := by simpa using h2
  have e1 : (xs.map rv).toArray[j] = rv (xs.getD j default) := by simp [List.getD_eq_getElem?_getD, List.getElem?_eq_getElem h1']
  have e2 : (ys.map rv).toArray[j] = rv (ys.getD j default) := by simp [List.getD_eq_getElem?_getD, List.getElem?_eq_getElem h2']
  rw [e1, e2]
  exact eqAt_bytes _ _ _ _
theorem m_lists_ne {D D2 : Addr} {xs ys : List (Bytes × Tok)} {n n2 : Nat} {Q : Value → Shared → Prop} (N : News h₀ L s.heap news) (h1 : (D, listOf (xs.map rv).toArray n) ∈ news) (h2 : (D2, listOf (ys.map rv).toArray n2) ∈ news) (hu : A.units < cLine)
    (h : Q (.bool (!decide (xs.map (·.1) = ys.map (·.1)))) s) : wpAny (model prog w) A (compareOp .NotEq (.ref D) (.ref D2)) Q E s := by
  show wpAny (model prog w) A (richCompare .NotEq (.ref D) (.ref D2)) Q E s
  by_cases hz : xs.length = ys.length
  · refine PySem.SeqAt.RcNeAt.lists (isListOf (N _ h1).1) (isListOf (N _ h2).1) (by simpa using hz) hu lists_at prog w E Q ?_
    rw [lists_all hz]; exact h
  · refine PySem.SeqAt.RcNeAt.lists_lengths (isListOf (N _ h1).1) (isListOf (N _ h2).1) (by simpa using hz) hu prog w E Q ?_
    have : ¬ xs.map (·.1) = ys.map (·.1) := fun e => hz (by have := congrArg List.length e; simpa using this)
    simpa [this] using h
theorem m_lists_eq {D D2 : Addr} {xs ys : List (Bytes × Tok)} {n n2 : Nat} {Q : Value → Shared → Prop} (N : News h₀ L s.heap news) (h1 : (D, listOf (xs.map rv).toArray n) ∈ news) (h2 : (D2, listOf (ys.map rv).toArray n2) ∈ news) (hu : A.units < cLine)
    (h : Q (.bool (decide (xs.map (·.1) = ys.map (·.1)))) s) : wpAny (model prog w) A (compareOp .Eq (.ref D) (.ref D2)) Q E s := by
  show wpAny (model prog w) A (richCompare .Eq (.ref D) (.ref D2)) Q E s
  by_cases hz : xs.length = ys.length
  · refine PySem.SeqAt.RcAt.lists (isListOf (N _ h1).1) (isListOf (N _ h2).1) (by simpa using hz) hu lists_at prog w E Q ?_
    rw [lists_all hz]; exact h
  · refine PySem.SeqAt.RcAt.lists_lengths (isListOf (N _ h1).1) (isListOf (N _ h2).1) (by simpa using hz) hu prog w E Q ?_
    have : ¬ xs.map (·.1) = ys.map (·.1) := fun e => hz (by have := congrArg List.length e; simpa using this)
    simpa [this] using h
/-- two pairs of a text and bytes -/
theorem m_pair_ne {D D2 : Addr} {x y : Str} {b c : Bytes} {t1 t2 t3 t4 : Tok} {Q : Value → Shared → Prop} (e1 : s.heap.get? D = some (tupOf [.str x t1, .bytes b t2])) (e2 : s.heap.get? D2 = some (tupOf [.str y t3, .bytes c t4])) (hu : A.units < cLine)
    (h : Q (.bool (!(x == y && b.toList == c.toList))) s) : wpAny (model prog w) A (compareOp .NotEq (.ref D) (.ref D2)) Q E s := by
  show wpAny (model prog w) A (richCompare .NotEq (.ref D) (.ref D2)) Q E s
  refine PySem.SeqAt.RcNeAt.tuples (e := fun j => if j = 0 then x == y else b.toList == c.toList) (isTupOf e1) (isTupOf e2) hu (fun j h1 h2 => ?_) prog w E Q ?_
  · have : j < 2 := h1
    rcases (by omega : j = 0 ∨ j = 1) with rfl | rfl
    · exact PySem.SeqAt.EqAt.str_str _ _ _ _
    · exact eqAt_bytes _ _ _ _
  · have e : (!((List.range (min (#[Value.str x t1, Value.bytes b t2] : Array Value).size (#[Value.str y t3, Value.bytes c t4] : Array Value).size)).all (fun j => if j = 0 then x == y else b.toList == c.toList) && (#[Value.str x t1, Value.bytes b t2] : Array Value).size == (#[Value.str y t3, Value.bytes c t4] : Array Value).size)) = !(x == y && b.toList == c.toList) := by
      show (!((List.range 2).all _ && true)) = _
      simp [List.range_succ]
    have h' := h
    rw [← e] at h'
    exact h'
theorem m_index_bytes {D : Addr} {cs : List (Bytes × Tok)} {n i : Nat} {b : Bytes} {t : Tok} {Q : Value → Shared → Prop} (N : News h₀ L s.heap news) (hm : (D, listOf (cs.map rv).toArray n) ∈ news) (hz : cs.length ≤ 100000) (hi : i < cs.length) (hit : (cs.map (·.1))[i]? = some b) (hno : ∀ j, @LT.lt Nat _ j i → (cs.map (·.1))[j]? ≠ some b)
    (h : Q (.int (i : Int) s.toks) { s with toks := s.toks + 1 }) : wpAny (model prog w) A (call (.builtin "list.index") [.ref D, .bytes b t]) Q E s := by
  have e0 := (N _ hm).1
  have hT : s.TypeIs (.ref D) "list" := ⟨_, e0, rfl⟩
  have hsz : (cs.map rv).toArray.size = cs.length := by simp
  have hat : ∀ j (hj : j < (cs.map rv).toArray.size), eqTo b (cs.map rv).toArray[j] = true ↔ (cs.map (·.1))[j]? = some b := fun j hj => by
    have hj' : j < cs.length := by simpa using hj
    have e1 : (cs.map rv).toArray[j] = rv cs[j] := by simp
    rw [e1, List.getElem?_map, List.getElem?_eq_getElem hj']
    show (cs[j].1.toList == b.toList) = true ↔ _
    rw [toList_beq, decide_eq_true_iff]
    simp
  refine call_meets PySem.F.slot_list_index hT PySem.F.entry_list_index (PySem.F.args_list_index_2 _ _)
    (PySem.SeqAt.list_indexAt D (cs.map rv).toArray n none #[] (.bytes b t) (eqTo b) i (by omega) (by omega) ((hat i (by omega)).mpr hit) fun j hj hlt => ?_) ⟨e0, fun y hy => ?_, h⟩
  · cases e : eqTo b (cs.map rv).toArray[j] with
    | false => rfl
    | true => exact absurd ((hat j hj).mp e) (hno j hlt)
  · obtain ⟨r, _, rfl⟩ := List.mem_map.mp (List.mem_toArray.mp hy)
    exact eqAt_bytes _ _ _ _
/-- a list of bytes, sorted -/
theorem mapM_first_bytes : ∀ (cs : List (Bytes × Tok)), (cs.map rv).mapM firstOfTuple' = pure ((cs.map rv).map fun _ => none)
  | [] => by simp
  | r :: cs => by
    rw [List.map_cons, List.mapM_cons, show firstOfTuple' (rv r) = pure none from rfl, mapM_first_bytes cs]; simp
theorem mapM_typeOf_bytes : ∀ (cs : List (Bytes × Tok)), (cs.map rv).mapM typeOf = pure ((cs.map rv).map fun _ => Value.type "bytes")
  | [] => by simp
  | r :: cs => by
    rw [List.map_cons, List.mapM_cons, mapM_typeOf_bytes cs]
    show (pure (Value.type "bytes") >>= fun b => pure _ >>= fun bs => pure (b :: bs)) = _
    simp
theorem keyKind_bytes {cs : List (Bytes × Tok)} (h : 0 < cs.length) : keyKind' (cs.map rv).toArray = pure oneType' := by
  obtain ⟨r, cs, rfl⟩ : ∃ r cs', cs = r :: cs' := by cases cs with
    | nil => simp at h
    | cons r cs => exact ⟨r, cs, rfl⟩
  rw [keyKind'_eq, List.mapM_toArray, mapM_first_bytes]
  simp only [map_pure, pure_bind]
  rw [if_neg (by simp), if_neg (by simp)]
  rw [oneTypeOnly'_eq, List.mapM_toArray, mapM_typeOf_bytes]
  simp only [map_pure, pure_bind]
  have hall : ((List.map (fun _ => Value.type "bytes") ((r :: cs).map rv)).toArray.all fun x => x == Value.type "bytes") = true := by
    simp only [List.all_toArray, List.all_map, List.all_eq_true]
    intro _ _
    rfl
  have h0 : (List.map (fun _ => Value.type "bytes") ((r :: cs).map rv)).toArray[0]? = some (Value.type "bytes") := by simp
  rw [h0]
  simp only [hall, if_true, pure_bind, Option.isSome_some]
theorem m_sorted_bytes {D : Addr} {cs : List (Bytes × Tok)} {n : Nat} {Q : Value → Shared → Prop} (F : Fr h₀ L s.heap m) (N : News h₀ L s.heap news) (hm : (D, listOf (cs.map rv).toArray n) ∈ news) (h64 : cs.length < 64)
    (htri : (cs.map (·.1)).Pairwise fun a b => ltL a.toList b.toList = !ltL b.toList a.toList)
    (h : ∀ D' c h' (ys : List (Bytes × Tok)), Fr h₀ L h' m → News h₀ L h' ((D', listOf (ys.map rv).toArray c) :: news) → (∀ q ∈ news, q.1 < D') → (ys.map (·.1)).Perm (cs.map (·.1)) → ((ys.map (·.1)).Pairwise fun a b => ltL a.toList b.toList = true) → Q (.ref D') { s with heap := h' }) :
    wpAny (model prog w) A (call (.builtin "sorted") [.ref D]) Q E s := by
  refine sorted_gen (default : Bytes × Tok) cs rv (fun x y => ltL x.1.toList y.1.toList) oneType' F N hm (fun hp A' s' C _ hC => ?_) (fun x y _ _ A' s' C _ hC => ?_) ?_ ?_ h64 fun D' c h' ys F' N' lo hp hs => h D' c h' ys F' N' lo (hp.map _) ?_
  · rw [keyKind_bytes hp]; exact wpAny_pure hC
  · rw [keyLt'_oneType]; exact oneLt_bytes hC
  · exact List.pairwise_map.mp htri
  · exact fun x y z h1 h2 => ltL_trans _ _ _ h1 h2
  · exact List.pairwise_map.mpr hs
theorem m_tupadd {t b : Addr} {vs ws : List Value} {Q : Value → Shared → Prop} (F : Fr h₀ L s.heap m) (N : News h₀ L s.heap news) (ht : h₀.IsTuple t vs.toArray) (hb : (b, tupOf ws) ∈ news) (hv : vs ≠ []) (hw : ws ≠ []) (hz : vs.length + ws.length ≤ 1000)
    (h : ∀ D h', Fr h₀ L h' m → News h₀ L h' ((D, tupOf (vs ++ ws)) :: news) → (∀ q ∈ news, q.1 < D) → Q (.ref D) { s with heap := h' }) : wpAny (model prog w) A (binaryOp .Add (.ref t) (.ref b)) Q E s := by
  obtain ⟨ot, et, ct⟩ := ht
  exact add_tuples F N ⟨ot, F.keep _ _ et, ct⟩ (isTupOf (N _ hb).1) (fun e => absurd e hv) (fun _ e => absurd e hw) (fun _ _ h' F' N' => h _ h' F' N' fun q hq => Heap.lt_size (N q hq).1) (by rw [sizeLine_eq]; omega)
theorem m_pick13 {D : Addr} {ks : List (Bytes × Tok)} {value slice : PySem.Expr} {k : Int} {u : Tok} {Q : Value → Shared → Prop} (N : News h₀ L s.heap news) (hm : (D, tupOf (ks.map rv)) ∈ news) (hl : ks.length = 13) (h : ∀ (b : Bytes) (t : Tok), (b, t) ∈ ks → Q (.bytes b t) s)
    (hs : subscripted slice false (.ref D) (.int (k.fmod 13) u) = operate [.ref D, .int (k.fmod 13) u] (getItem (.ref D) (.int (k.fmod 13) u)) := by with_unfolding_all rfl) :
    wpAny (model prog w) A (subscriptTail value slice (.ref D) (.int (k.fmod 13) u)) Q E s := by
  have h0 : 0 ≤ k.fmod 13 := Int.fmod_nonneg_of_pos _ (by decide)
  have h1 : k.fmod 13 < 13 := Int.fmod_lt_of_pos _ (by decide)
  generalize k.fmod 13 = j at h0 h1 hs ⊢
  have hj : j.toNat < ks.length := by omega
  refine item_tupleT (j := j.toNat) (x := rv ks[j.toNat]) (isTupOf (N _ hm).1) (by omega) (by omega) ?_ ?_ (h _ _ (by show ks[j.toNat] ∈ ks; exact List.getElem_mem hj)) hs
  · unfold seqIndex?
    simp
    omega
  · simp [hj]
end

theorem w_LS : True := by
  k_with_none
  (k_with "eval Name" => (k_here; k_dflt (refine' nameX_L (by k_asm) (by rfl) ?_ (by rfl) (by rfl); k_whole)))
  (k_with "cj" => (first | assumption | exact And.left (by assumption) | exact And.left (And.right (by assumption)) | exact And.right (by assumption) | exact And.left (And.right (And.right (by assumption))) | exact And.right (And.right (by assumption)) | exact And.left (And.right (And.right (And.right (by assumption)))) | exact And.right (And.right (And.right (by assumption))) | exact And.left (And.right (And.right (And.right (And.right (by assumption))))) | exact And.right (And.right (And.right (And.right (by assumption)))) | exact And.left (And.right (And.right (And.right (And.right (And.right (by assumption)))))) | exact And.right (And.right (And.right (And.right (And.right (by assumption))))) | exact And.left (And.right (And.right (And.right (And.right (And.right (And.right (by assumption))))))) | exact And.right (And.right (And.right (And.right (And.right (And.right (by assumption)))))) | exact And.left (And.right (And.right (And.right (And.right (And.right (And.right (And.right (by assumption)))))))) | exact And.right (And.right (And.right (And.right (And.right (And.right (And.right (by assumption))))))) | exact And.left (And.right (And.right (And.right (And.right (And.right (And.right (And.right (And.right (by assumption))))))))) | exact And.right (And.right (And.right (And.right (And.right (And.right (And.right (And.right (by assumption)))))))) | exact And.left (And.right (And.right (And.right (And.right (And.right (And.right (And.right (And.right (And.right (by assumption)))))))))) | exact And.right (And.right (And.right (And.right (And.right (And.right (And.right (And.right (And.right (by assumption))))))))) | exact And.left (And.right (And.right (And.right (And.right (And.right (And.right (And.right (And.right (And.right (And.right (by assumption))))))))))) | exact And.right (And.right (And.right (And.right (And.right (And.right (And.right (And.right (And.right (And.right (by assumption)))))))))) | exact And.left (And.right (And.right (And.right (And.right (And.right (And.right (And.right (And.right (And.right (And.right (And.right (by assumption)))))))))))) | exact And.right (And.right (And.right (And.right (And.right (And.right (And.right (And.right (And.right (And.right (And.right (by assumption))))))))))) | exact And.left (And.right (And.right (And.right (And.right (And.right (And.right (And.right (And.right (And.right (And.right (And.right (And.right (by assumption))))))))))))) | exact And.right (And.right (And.right (And.right (And.right (And.right (And.right (And.right (And.right (And.right (And.right (And.right (by assumption)))))))))))) | exact And.left (And.right (And.right (And.right (And.right (And.right (And.right (And.right (And.right (And.right (And.right (And.right (And.right (And.right (by assumption)))))))))))))) | exact And.right (And.right (And.right (And.right (And.right (And.right (And.right (And.right (And.right (And.right (And.right (And.right (And.right (by assumption)))))))))))))))
  (k_with "cj2" => (first | k_extra "cj" | exact Nat.lt_succ_of_lt (by k_extra "cj") | exact Nat.lt_succ_of_lt (Nat.lt_succ_of_lt (by k_extra "cj")) | exact Nat.lt_succ_self _))
  (k_with "om" => (first | (with_reducible assumption) | (with_reducible exact Nat.ne_of_gt (by k_extra "cj")) | (with_reducible exact Nat.ne_of_lt (by k_extra "cj")) | (with_reducible k_extra "cj2") | (with_reducible exact Nat.ne_of_lt (by k_extra "cj2")) | (with_reducible exact Nat.ne_of_gt (by k_extra "cj2")) | (with_reducible exact Ne.symm (by k_extra "cj")) | omega))
  (k_with "k_ne" => (refine neN ?_; (try dsimp only); k_extra "om"))
  trivial
/-- two addresses apart, unseen by omega -/
structure NeA (a b : Addr) : Prop where
  ne : @Ne Nat a b
theorem sk1 (n : Nat) : n + 1 ≠ n := Nat.succ_ne_self n
theorem sk2 (n : Nat) : n + 1 + 1 ≠ n := by omega
theorem sk3 (n : Nat) : n + 1 + 1 + 1 ≠ n := by omega
theorem sk4 (n : Nat) : n + 1 + 1 + 1 + 1 ≠ n := by omega
theorem NeA.none {h : Heap} {a b : Addr} {o : Obj} (e1 : h.get? a = some o) (e2 : h.get? b = none) : NeA a b := ⟨fun e => by
  have e : a = b := e
  rw [e, e2] at e1; cases e1⟩
theorem offN {I : Ids} {a : Addr} (h1 : NeA a I.x) (h2 : NeA a I.dx) (h3 : NeA a I.cA) (h4 : NeA a I.sA) : a ∉ I.adr := fun h => by
  rcases List.mem_cons.mp h with e | h
  · exact h1.ne e
  rcases List.mem_cons.mp h with e | h
  · exact h2.ne e
  rcases List.mem_cons.mp h with e | h
  · exact h3.ne e
  rcases List.mem_cons.mp h with e | h
  · exact h4.ne e
  cases h
theorem X_none {h : Heap} {X : List (Addr × Obj)} {a : Addr} {o : Obj} (hX : ∀ p ∈ X, h.get? p.1 = none) (e1 : h.get? a = some o) : ∀ p ∈ X, @Ne Nat p.1 a := fun p hp e => by
  have e : p.1 = a := e
  have := hX p hp
  rw [e, e1] at this; cases this
theorem News.join {g h h' : Heap} {L : Addr} {A B : List (Addr × Obj)} (N : News g L h A) (k : ∀ b o, h.get? b = some o → h'.get? b = some o) (N' : News g L h' B) : News g L h' (A ++ B) := fun p hp => by
  rcases List.mem_append.mp hp with hp | hp
  · exact ⟨k _ _ (N p hp).1, (N p hp).2⟩
  · exact N' p hp
theorem pick7 {g h : Heap} {L : Addr} {a0 a1 a2 a3 a4 a5 a6 a7 a8 a9 : Addr × Obj} (N : News g L h [a0, a1, a2, a3, a4, a5, a6, a7, a8, a9]) : News g L h [a1, a4, a5, a6, a7, a8, a9] := fun p hp => by
  rcases List.mem_cons.mp hp with rfl | hp
  · exact N _ (.tail _ (.head _))
  · exact N _ (.tail _ (.tail _ (.tail _ (.tail _ hp))))
structure StopIf : Prop where
theorem hold_if {P : Prop} (_ : StopIf) (h : Hold P) : P := h
theorem cut_next {prog : Program} {w : World} {A : Around} {E : Value → Shared → Prop} {s : Shared} {x : Sem Flow} {Q : Flow → Shared → Prop} (P : Heap → Prop) (h1 : wpAny (model prog w) A x (fun fl s' => fl = .next ∧ ∃ h' tk', s' = { s with heap := h', toks := tk' } ∧ P h') E s) (h2 : ∀ h' tk', P h' → Q .next { s with heap := h', toks := tk' }) :
    wpAny (model prog w) A x Q E s := wpAny_mono h1 (fun fl s' => by rintro ⟨rfl, h', tk', rfl, p⟩; exact h2 h' tk' p) fun _ _ e => e
/-- what stands behind the deletions -/
noncomputable def TailP (h₀ : Heap) (L cA c5 c4 c3 c2 c1 : Addr) (h' : Heap) : Prop :=
  ∃ (ls cf : List (Bytes × Tok)) (lA : Addr) (cl nc : Nat) (u : Str → Option Value) (w5 w4 w3 w2 w1 : Obj) (x5 x4 x3 x2 x1 : Option Value),
    Fr h₀ L h' (fun z => if z = Str.ofString "left" then some (.ref lA) else if z = Str.ofString "content" then some (.ref cA) else u z) ∧
    News h₀ L h' [(lA, listOf (ls.map rv).toArray cl), (cA, listOf (cf.map rv).toArray nc), (c5, w5), (c4, w4), (c3, w3), (c2, w2), (c1, w1)] ∧
    w5.data = Data.cell x5 ∧ w4.data = Data.cell x4 ∧ w3.data = Data.cell x3 ∧ w2.data = Data.cell x2 ∧ w1.data = Data.cell x1 ∧
    ls.map (·.1) = cf.map (·.1) ∧ (ls.map (·.1)).Sublist c0 ∧ NeA lA cA ∧ NeA lA c5 ∧ NeA lA c4 ∧ NeA lA c3 ∧ NeA lA c2 ∧ NeA lA c1
abbrev mkTail {g h : Heap} {L D0 c5 c4 c3 c2 c1 : Addr} {o0 o5 o4 o3 o2 o1 : Obj} (_ : News g L h [(D0, o0), (c5, o5), (c4, o4), (c3, o3), (c2, o2), (c1, o1)]) (cA : Addr) : Heap → Prop := TailP g L cA c5 c4 c3 c2 c1

theorem w_LJ : True := by
  k_with_none
  (k_with "eval Name" => (k_here; k_dflt (refine' nameX_L (by k_asm) (by rfl) ?_ (by rfl) (by rfl); k_whole)))
  (k_with "cj" => (first | assumption | exact And.left (by assumption) | exact And.left (And.right (by assumption)) | exact And.right (by assumption) | exact And.left (And.right (And.right (by assumption))) | exact And.right (And.right (by assumption)) | exact And.left (And.right (And.right (And.right (by assumption)))) | exact And.right (And.right (And.right (by assumption))) | exact And.left (And.right (And.right (And.right (And.right (by assumption))))) | exact And.right (And.right (And.right (And.right (by assumption)))) | exact And.left (And.right (And.right (And.right (And.right (And.right (by assumption)))))) | exact And.right (And.right (And.right (And.right (And.right (by assumption))))) | exact And.left (And.right (And.right (And.right (And.right (And.right (And.right (by assumption))))))) | exact And.right (And.right (And.right (And.right (And.right (And.right (by assumption)))))) | exact And.left (And.right (And.right (And.right (And.right (And.right (And.right (And.right (by assumption)))))))) | exact And.right (And.right (And.right (And.right (And.right (And.right (And.right (by assumption))))))) | exact And.left (And.right (And.right (And.right (And.right (And.right (And.right (And.right (And.right (by assumption))))))))) | exact And.right (And.right (And.right (And.right (And.right (And.right (And.right (And.right (by assumption)))))))) | exact And.left (And.right (And.right (And.right (And.right (And.right (And.right (And.right (And.right (And.right (by assumption)))))))))) | exact And.right (And.right (And.right (And.right (And.right (And.right (And.right (And.right (And.right (by assumption))))))))) | exact And.left (And.right (And.right (And.right (And.right (And.right (And.right (And.right (And.right (And.right (And.right (by assumption))))))))))) | exact And.right (And.right (And.right (And.right (And.right (And.right (And.right (And.right (And.right (And.right (by assumption)))))))))) | exact And.left (And.right (And.right (And.right (And.right (And.right (And.right (And.right (And.right (And.right (And.right (And.right (by assumption)))))))))))) | exact And.right (And.right (And.right (And.right (And.right (And.right (And.right (And.right (And.right (And.right (And.right (by assumption))))))))))) | exact And.left (And.right (And.right (And.right (And.right (And.right (And.right (And.right (And.right (And.right (And.right (And.right (And.right (by assumption))))))))))))) | exact And.right (And.right (And.right (And.right (And.right (And.right (And.right (And.right (And.right (And.right (And.right (And.right (by assumption)))))))))))) | exact And.left (And.right (And.right (And.right (And.right (And.right (And.right (And.right (And.right (And.right (And.right (And.right (And.right (And.right (by assumption)))))))))))))) | exact And.right (And.right (And.right (And.right (And.right (And.right (And.right (And.right (And.right (And.right (And.right (And.right (And.right (by assumption)))))))))))))))
  (k_with "cj2" => (first | k_extra "cj" | exact Nat.lt_succ_of_lt (by k_extra "cj") | exact Nat.lt_succ_of_lt (Nat.lt_succ_of_lt (by k_extra "cj")) | exact Nat.lt_succ_self _))
  (k_with "om" => (first | (with_reducible assumption) | (with_reducible exact Nat.ne_of_gt (by k_extra "cj")) | (with_reducible exact Nat.ne_of_lt (by k_extra "cj")) | (with_reducible k_extra "cj2") | (with_reducible exact Nat.ne_of_lt (by k_extra "cj2")) | (with_reducible exact Nat.ne_of_gt (by k_extra "cj2")) | (with_reducible exact Ne.symm (by k_extra "cj")) | omega))
  (k_with "k_ne" => (refine neN ?_; (try dsimp only); k_extra "om"))
  trivial
theorem m_norm3 {m : Str → Option Value} {a b c : Value} (h1 : m (Str.ofString "left") = some a) (h2 : m (Str.ofString "content") = some b) (h3 : m (Str.ofString "made") = some c) :
    m = fun z => if z = Str.ofString "left" then some a else if z = Str.ofString "content" then some b else if z = Str.ofString "made" then some c else m z := by
  funext z
  by_cases e1 : z = Str.ofString "left"
  · rw [if_pos e1, e1, h1]
  rw [if_neg e1]
  by_cases e2 : z = Str.ofString "content"
  · rw [if_pos e2, e2, h2]
  rw [if_neg e2]
  by_cases e3 : z = Str.ofString "made"
  · rw [if_pos e3, e3, h3]
  rw [if_neg e3]
theorem m_norm2 {m : Str → Option Value} {a b : Value} (h1 : m (Str.ofString "left") = some a) (h2 : m (Str.ofString "content") = some b) :
    m = fun z => if z = Str.ofString "left" then some a else if z = Str.ofString "content" then some b else m z := by
  funext z
  by_cases e1 : z = Str.ofString "left"
  · rw [if_pos e1, e1, h1]
  rw [if_neg e1]
  by_cases e2 : z = Str.ofString "content"
  · rw [if_pos e2, e2, h2]
  rw [if_neg e2]
/-- a list that is apart from all that is written -/
structure Apart (I : Ids) (X : List (Addr × Obj)) (D0 c5 c4 c3 c2 c1 lA : Addr) : Prop where
  x : NeA lA I.x
  dx : NeA lA I.dx
  cA : NeA lA I.cA
  sA : NeA lA I.sA
  c5 : NeA lA c5
  c4 : NeA lA c4
  c3 : NeA lA c3
  c2 : NeA lA c2
  c1 : NeA lA c1
  d0 : NeA lA D0
  X : ∀ p ∈ X, @Ne Nat p.1 lA
/-- what turns in an object, and the cells -/
structure Vol where
  st : St
  atv : Value
  tk : Nat → Tok
  tm : Tok
  ta : Tok
  tn : Tok
  tw : Tok
  tl : Tok
  hi : Value
  nc : Nat
  ns : Nat
structure Cel where
  w5 : Obj
  w4 : Obj
  w3 : Obj
  w2 : Obj
  w1 : Obj
  x5 : Option Value
  x4 : Option Value
  x3 : Option Value
  x2 : Option Value
  x1 : Option Value
/-- the invariant of the loop over the cells -/
noncomputable def RandJ (w : World) (I : Ids) (X : List (Addr × Obj)) (D0 c5 c4 c3 c2 c1 : Addr) (lo : Obj) (m : Str → Option Value) (nx : List (Addr × Obj)) : Prop :=
  ∃ (ls : List (Bytes × Tok)) (lA : Addr) (cl : Nat) (u : Str → Option Value) (v : Vol) (c : Cel),
    m = (fun z => if z = Str.ofString "left" then some (.ref lA) else if z = Str.ofString "content" then some (.ref I.cA) else if z = Str.ofString "made" then some (.ref I.x) else u z) ∧
    nx = (lA, listOf (ls.map rv).toArray cl) :: (D0, lo) :: (c5, c.w5) :: (c4, c.w4) :: (c3, c.w3) :: (c2, c.w2) :: (c1, c.w1) :: led4T w I v.st v.tk v.tm v.ta v.tn v.tw v.tl v.atv v.hi v.nc v.ns X ∧
    (c.w5.data = Data.cell c.x5 ∧ c.w4.data = Data.cell c.x4 ∧ c.w3.data = Data.cell c.x3 ∧ c.w2.data = Data.cell c.x2 ∧ c.w1.data = Data.cell c.x1) ∧ Own I v.st X ∧ ls.map (·.1) = v.st.cs.map (·.1) ∧ (ls.map (·.1)).Sublist c0 ∧ Apart I X D0 c5 c4 c3 c2 c1 lA
theorem RandJ.mem {w : World} {I : Ids} {X : List (Addr × Obj)} {D0 c5 c4 c3 c2 c1 : Addr} {lo : Obj} {m : Str → Option Value} {nx : List (Addr × Obj)} (h : RandJ w I X D0 c5 c4 c3 c2 c1 lo m nx) : (D0, lo) ∈ nx := by
  obtain ⟨ls, lA, cl, u, v, c, _, rfl, _⟩ := h
  exact .tail _ (.head _)
theorem map_ne {pt : List (Bytes × Tok)} (h : 0 < pt.length) : pt.map rv ≠ [] := fun e => by
  have := congrArg List.length e
  simp at this
  rw [this] at h; simp at h
noncomputable def cut2 (b : Bytes) : Bytes := KBy.picked b none (some 2)
theorem pr_sizes : ∀ b ∈ pr, b.size ≤ 1000 := by decide
theorem c0_sizes : ∀ b ∈ c0, b.size ≤ 1000 := by decide
theorem kb_size {pt : List (Bytes × Tok)} (hpt : pt.map (·.1) = pr) {kb : Bytes} {kt t1 t2 t3 : Tok} (h : (kb, kt) ∈ pt ++ [((#[113, 113] : Bytes), t1), ((#[109] : Bytes), t2), ((#[] : Bytes), t3)]) : kb.size ≤ 1000 := by
  rcases List.mem_append.mp h with h | h
  · exact pr_sizes _ (by rw [← hpt]; exact List.mem_map_of_mem (f := (·.1)) h)
  · simp at h
    rcases h with ⟨rfl, _⟩ | ⟨rfl, _⟩ | ⟨rfl, _⟩ <;> decide
theorem ls_len {ls : List (Bytes × Tok)} (h : (ls.map (·.1)).Sublist c0) : ls.length ≤ 100 := by
  have := h.length_le
  rw [List.length_map] at this
  have e : c0.length = 10 := rfl
  omega
theorem ls_size {ls : List (Bytes × Tok)} (h : (ls.map (·.1)).Sublist c0) : ∀ r ∈ ls, r.1.size ≤ 1000 := fun r hr => c0_sizes _ (h.subset (List.mem_map_of_mem (f := (·.1)) hr))

theorem w_LK : True := by
  k_with_none
  (k_with "eval Name" => (k_here; k_dflt (refine' nameX_L (by k_asm) (by rfl) ?_ (by rfl) (by rfl); k_whole)))
  (k_with "cj" => (first | assumption | exact And.left (by assumption) | exact And.left (And.right (by assumption)) | exact And.right (by assumption) | exact And.left (And.right (And.right (by assumption))) | exact And.right (And.right (by assumption)) | exact And.left (And.right (And.right (And.right (by assumption)))) | exact And.right (And.right (And.right (by assumption))) | exact And.left (And.right (And.right (And.right (And.right (by assumption))))) | exact And.right (And.right (And.right (And.right (by assumption)))) | exact And.left (And.right (And.right (And.right (And.right (And.right (by assumption)))))) | exact And.right (And.right (And.right (And.right (And.right (by assumption))))) | exact And.left (And.right (And.right (And.right (And.right (And.right (And.right (by assumption))))))) | exact And.right (And.right (And.right (And.right (And.right (And.right (by assumption)))))) | exact And.left (And.right (And.right (And.right (And.right (And.right (And.right (And.right (by assumption)))))))) | exact And.right (And.right (And.right (And.right (And.right (And.right (And.right (by assumption))))))) | exact And.left (And.right (And.right (And.right (And.right (And.right (And.right (And.right (And.right (by assumption))))))))) | exact And.right (And.right (And.right (And.right (And.right (And.right (And.right (And.right (by assumption)))))))) | exact And.left (And.right (And.right (And.right (And.right (And.right (And.right (And.right (And.right (And.right (by assumption)))))))))) | exact And.right (And.right (And.right (And.right (And.right (And.right (And.right (And.right (And.right (by assumption))))))))) | exact And.left (And.right (And.right (And.right (And.right (And.right (And.right (And.right (And.right (And.right (And.right (by assumption))))))))))) | exact And.right (And.right (And.right (And.right (And.right (And.right (And.right (And.right (And.right (And.right (by assumption)))))))))) | exact And.left (And.right (And.right (And.right (And.right (And.right (And.right (And.right (And.right (And.right (And.right (And.right (by assumption)))))))))))) | exact And.right (And.right (And.right (And.right (And.right (And.right (And.right (And.right (And.right (And.right (And.right (by assumption))))))))))) | exact And.left (And.right (And.right (And.right (And.right (And.right (And.right (And.right (And.right (And.right (And.right (And.right (And.right (by assumption))))))))))))) | exact And.right (And.right (And.right (And.right (And.right (And.right (And.right (And.right (And.right (And.right (And.right (And.right (by assumption)))))))))))) | exact And.left (And.right (And.right (And.right (And.right (And.right (And.right (And.right (And.right (And.right (And.right (And.right (And.right (And.right (by assumption)))))))))))))) | exact And.right (And.right (And.right (And.right (And.right (And.right (And.right (And.right (And.right (And.right (And.right (And.right (And.right (by assumption)))))))))))))))
  (k_with "cj2" => (first | k_extra "cj" | exact Nat.lt_succ_of_lt (by k_extra "cj") | exact Nat.lt_succ_of_lt (Nat.lt_succ_of_lt (by k_extra "cj")) | exact Nat.lt_succ_self _))
  (k_with "om" => (first | (with_reducible assumption) | (with_reducible exact Nat.ne_of_gt (by k_extra "cj")) | (with_reducible exact Nat.ne_of_lt (by k_extra "cj")) | (with_reducible k_extra "cj2") | (with_reducible exact Nat.ne_of_lt (by k_extra "cj2")) | (with_reducible exact Nat.ne_of_gt (by k_extra "cj2")) | (with_reducible exact Ne.symm (by k_extra "cj")) | omega))
  (k_with "k_ne" => (refine neN ?_; (try dsimp only); k_extra "om"))
  trivial
theorem place_cases (cs : List (Bytes × Tok)) (key : Bytes) : (placeOf cs key = -1 ∧ ∀ b ∈ cs.map (·.1), ((worthB 0 b).toList == key.toList) = false) ∨ ∃ i : Nat, i < cs.length ∧ placeOf cs key = (i : Int) ∧ ∃ b, (cs.map (·.1))[i]? = some b ∧ ((worthB 0 b).toList == key.toList) = true := by
  unfold placeOf
  cases h : cs.findIdx? (fun r => (worthB 0 r.1).toList == key.toList) with
  | none =>
    refine .inl ⟨rfl, fun b hb => ?_⟩
    obtain ⟨r, hr, rfl⟩ := List.mem_map.mp hb
    have := List.findIdx?_eq_none_iff.mp h r hr
    exact this
  | some i =>
    obtain ⟨hi, h1, _⟩ := List.findIdx?_eq_some_iff_getElem.mp h
    exact .inr ⟨i, hi, rfl, cs[i].1, by rw [List.getElem?_map, List.getElem?_eq_getElem hi]; rfl, h1⟩
theorem cut2_c0 : ∀ b ∈ c0, cut2 b = worthB 0 b := by decide +kernel
theorem worth_inj : ∀ a ∈ c0, ∀ b ∈ c0, worthB 0 a = worthB 0 b → a = b := by decide +kernel
theorem c0_nodup : c0.Nodup := by decide +kernel
theorem filter_erase {α : Type} (p : α → Bool) : ∀ (l : List α) (i : Nat) (a : α), l[i]? = some a → p a = true → (∀ j b, j ≠ i → l[j]? = some b → p b = false) → l.filter (fun x => !p x) = l.eraseIdx i
  | [], i, a, h, _, _ => by simp at h
  | x :: l, 0, a, h, hp, hn => by
    simp only [List.getElem?_cons_zero, Option.some.injEq] at h
    subst h
    rw [List.filter_cons_of_neg (by simp [hp]), List.eraseIdx_cons_zero]
    refine List.filter_eq_self.mpr fun y hy => ?_
    obtain ⟨j, hj, e⟩ := List.mem_iff_getElem.mp hy
    have := hn (j + 1) y (Nat.succ_ne_zero j) (by rw [List.getElem?_cons_succ, List.getElem?_eq_getElem hj, e])
    simp [this]
  | x :: l, i + 1, a, h, hp, hn => by
    have h0 := hn 0 x (Nat.succ_ne_zero i).symm rfl
    rw [List.filter_cons_of_pos (by simp [h0]), List.eraseIdx_cons_succ, filter_erase p l i a (by simpa using h) hp fun j b hj hb => hn (j + 1) b (by omega) (by simpa using hb)]
/-- what goes, and what is left -/
theorem gone_none {B : List Bytes} {key : Bytes} (hs : B.Sublist c0) (h : ∀ b ∈ B, ((worthB 0 b).toList == key.toList) = false) : B.filter (fun b => (cut2 b).toList == key.toList) = [] := by
  refine List.filter_eq_nil_iff.mpr fun b hb => ?_
  rw [cut2_c0 b (hs.subset hb), h b hb]; decide
theorem gone_some {B : List Bytes} {key : Bytes} (hs : B.Sublist c0) {i : Nat} {b : Bytes} (hi : B[i]? = some b) (h : ((worthB 0 b).toList == key.toList) = true) : B.filter (fun b => (cut2 b).toList == key.toList) ≠ [] ∧ B.filter (fun x => decide (x ∉ B.filter (fun b => (cut2 b).toList == key.toList))) = B.eraseIdx i := by
  have hm := List.mem_of_getElem? hi
  have hP : ((cut2 b).toList == key.toList) = true := by rw [cut2_c0 b (hs.subset hm)]; exact h
  refine ⟨fun e => ?_, ?_⟩
  · have : b ∈ B.filter (fun b => (cut2 b).toList == key.toList) := List.mem_filter.mpr ⟨hm, hP⟩
    rw [e] at this; cases this
  · rw [← filter_erase (fun b => (cut2 b).toList == key.toList) B i b hi hP]
    · refine List.filter_congr fun x hx => ?_
      have e1 : (x ∈ B.filter (fun b => (cut2 b).toList == key.toList)) ↔ ((cut2 x).toList == key.toList) = true := by rw [List.mem_filter]; exact ⟨fun z => z.2, fun z => ⟨hx, z⟩⟩
      show decide (x ∉ B.filter (fun b => (cut2 b).toList == key.toList)) = !((cut2 x).toList == key.toList)
      have e2 : decide (x ∈ B.filter (fun b => (cut2 b).toList == key.toList)) = ((cut2 x).toList == key.toList) := by rw [Bool.eq_iff_iff, decide_eq_true_iff]; exact e1
      rw [decide_not, e2]
    · intro j b' hj hb'
      cases q : ((cut2 b').toList == key.toList) with
      | false => rfl
      | true =>
        exfalso
        have hm' := List.mem_of_getElem? hb'
        rw [cut2_c0 b' (hs.subset hm'), toList_beq, decide_eq_true_iff] at q
        rw [toList_beq, decide_eq_true_iff] at h
        have e := worth_inj _ (hs.subset hm') _ (hs.subset hm) (q.trans h.symm)
        subst e
        have nd : B.Nodup := hs.nodup c0_nodup
        have l1 : j < B.length := (List.getElem?_eq_some_iff.mp hb').1
        have l2 : i < B.length := (List.getElem?_eq_some_iff.mp hi).1
        have e1 := (List.getElem?_eq_some_iff.mp hb').2
        have e2 := (List.getElem?_eq_some_iff.mp hi).2
        exact hj ((List.getElem_inj nd).mp (e1.trans e2.symm))
/-- a filter, grown by one -/
theorem filt_in {p : Bytes → Bool} {gs ls : List (Bytes × Tok)} {j : Nat} {rb : Bytes} {rt t : Tok} (h : gs.map (·.1) = ((ls.take j).map (·.1)).filter p) (hr : ls[j]? = some (rb, rt)) (hp : p rb = true) : (gs ++ [(rb, t)]).map (·.1) = ((ls.take (j + 1)).map (·.1)).filter p := by
  rw [List.map_append, h, List.take_add_one, hr]
  simp [hp]
theorem filt_out {p : Bytes → Bool} {gs ls : List (Bytes × Tok)} {j : Nat} {rb : Bytes} {rt : Tok} (h : gs.map (·.1) = ((ls.take j).map (·.1)).filter p) (hr : ls[j]? = some (rb, rt)) (hp : p rb = false) : gs.map (·.1) = ((ls.take (j + 1)).map (·.1)).filter p := by
  rw [h, List.take_add_one, hr]
  simp [hp]
theorem del_sub {st : St} {atv : Value} {z : Int} {a b c : Str} (hzz : z = -1 ∨ ∃ i : Nat, z = (i : Int) ∧ i < st.cs.length) {v : Value} {st' : St} {atv' : Value} (po : atv' = atv ∧ (z = -1 → st' = st ∧ ∃ t, v = .str (if a == b then c else Str.ofString "23") t) ∧ ∀ i : Nat, z = (i : Int) → st' = { st with cs := st.cs.eraseIdx i, rows := st.rows.eraseIdx i, last := -1 } ∧ ∃ t, v = .str (Str.ofString "00") t) : ∀ r ∈ st'.rows, r ∈ st.rows := by
  obtain ⟨_, p1, p2⟩ := po
  rcases hzz with h | ⟨i, h, _⟩
  · obtain ⟨rfl, _⟩ := p1 h; exact fun r hr => hr
  · obtain ⟨rfl, _⟩ := p2 i h; exact fun r hr => List.mem_of_mem_eraseIdx hr
theorem loop_pick {g h : Heap} {L : Addr} {a b c d : Addr × Obj} {R : List (Addr × Obj)} (N : News g L h (a :: b :: c :: d :: R)) : News g L h (c :: a :: R) := fun p hp => by
  rcases List.mem_cons.mp hp with rfl | hp
  · exact N _ (.tail _ (.tail _ (.head _)))
  rcases List.mem_cons.mp hp with rfl | hp
  · exact N _ (.head _)
  · exact N _ (.tail _ (.tail _ (.tail _ (.tail _ hp))))
theorem ne_of_addr {R R' : List (Addr × Obj)} {I : Addr} (h : ∀ p ∈ R, p.1 ≠ I) (e : R'.map (·.1) = R.map (·.1)) : ∀ p ∈ R', p.1 ≠ I := fun p hp => by
  have : p.1 ∈ R.map (·.1) := by rw [← e]; exact List.mem_map_of_mem (f := (·.1)) hp
  obtain ⟨q, hq, e2⟩ := List.mem_map.mp this
  rw [← e2]; exact h q hq
theorem filt_all {B : List Bytes} : B.filter (fun b => decide (b ∉ ([] : List Bytes))) = B := List.filter_eq_self.mpr fun _ _ => by simp
theorem map_eraseIdx' {l : List (Bytes × Tok)} {i : Nat} : (l.map (·.1)).eraseIdx i = (l.eraseIdx i).map (·.1) := by
  rw [List.eraseIdx_eq_take_drop_succ, List.eraseIdx_eq_take_drop_succ, List.map_append, List.map_take, List.map_drop]
theorem ne_of_addr2 {a : Addr × Obj} {R R' : List (Addr × Obj)} {I D : Addr} {o : Obj} (h : ∀ p ∈ a :: R, p.1 ≠ I) (h0 : @Ne Nat I D) (e : R'.map (·.1) = R.map (·.1)) : ∀ p ∈ (D, o) :: R', p.1 ≠ I := fun p hp => by
  rcases List.mem_cons.mp hp with rfl | hp
  · exact fun e => h0 e.symm
  · exact ne_of_addr (fun q hq => h q (.tail _ hq)) e p hp
theorem neA_symm {a b : Addr} (h : @Ne Nat a b) : NeA b a := ⟨fun e => h e.symm⟩
theorem tail_pick {g h : Heap} {L : Addr} {a0 d c5 c4 c3 c2 c1 x dx cA : Addr × Obj} {R : List (Addr × Obj)} (N : News g L h (a0 :: d :: c5 :: c4 :: c3 :: c2 :: c1 :: x :: dx :: cA :: R)) : News g L h [a0, cA, c5, c4, c3, c2, c1] := fun p hp => by
  rcases List.mem_cons.mp hp with rfl | hp
  · exact N _ (.head _)
  rcases List.mem_cons.mp hp with rfl | hp
  · exact N _ (.tail _ (.tail _ (.tail _ (.tail _ (.tail _ (.tail _ (.tail _ (.tail _ (.tail _ (.head _))))))))))
  · exact N _ (.tail _ (.tail _ (List.mem_append_left (as := [c5, c4, c3, c2, c1]) _ hp)))
theorem pick6 {g h : Heap} {L : Addr} {a0 a1 a2 a3 a4 a5 a6 : Addr × Obj} (N : News g L h [a0, a1, a2, a3, a4, a5, a6]) : News g L h [a0, a2, a3, a4, a5, a6] := fun p hp => by
  rcases List.mem_cons.mp hp with rfl | hp
  · exact N _ (.head _)
  · exact N _ (.tail _ (.tail _ hp))
theorem ls_len10 {ls : List (Bytes × Tok)} (h : (ls.map (·.1)).Sublist c0) : ls.length ≤ 50 := by
  have := h.length_le
  rw [List.length_map] at this
  have e : c0.length = 10 := rfl
  omega

theorem w_LT : True := by
  k_with_none
  (k_with "eval Name" => (k_here; k_dflt (refine' nameX_L (by k_asm) (by rfl) ?_ (by rfl) (by rfl); k_whole)))
  (k_with "cj" => (first | assumption | exact And.left (by assumption) | exact And.left (And.right (by assumption)) | exact And.right (by assumption) | exact And.left (And.right (And.right (by assumption))) | exact And.right (And.right (by assumption)) | exact And.left (And.right (And.right (And.right (by assumption)))) | exact And.right (And.right (And.right (by assumption))) | exact And.left (And.right (And.right (And.right (And.right (by assumption))))) | exact And.right (And.right (And.right (And.right (by assumption)))) | exact And.left (And.right (And.right (And.right (And.right (And.right (by assumption)))))) | exact And.right (And.right (And.right (And.right (And.right (by assumption))))) | exact And.left (And.right (And.right (And.right (And.right (And.right (And.right (by assumption))))))) | exact And.right (And.right (And.right (And.right (And.right (And.right (by assumption)))))) | exact And.left (And.right (And.right (And.right (And.right (And.right (And.right (And.right (by assumption)))))))) | exact And.right (And.right (And.right (And.right (And.right (And.right (And.right (by assumption))))))) | exact And.left (And.right (And.right (And.right (And.right (And.right (And.right (And.right (And.right (by assumption))))))))) | exact And.right (And.right (And.right (And.right (And.right (And.right (And.right (And.right (by assumption)))))))) | exact And.left (And.right (And.right (And.right (And.right (And.right (And.right (And.right (And.right (And.right (by assumption)))))))))) | exact And.right (And.right (And.right (And.right (And.right (And.right (And.right (And.right (And.right (by assumption))))))))) | exact And.left (And.right (And.right (And.right (And.right (And.right (And.right (And.right (And.right (And.right (And.right (by assumption))))))))))) | exact And.right (And.right (And.right (And.right (And.right (And.right (And.right (And.right (And.right (And.right (by assumption)))))))))) | exact And.left (And.right (And.right (And.right (And.right (And.right (And.right (And.right (And.right (And.right (And.right (And.right (by assumption)))))))))))) | exact And.right (And.right (And.right (And.right (And.right (And.right (And.right (And.right (And.right (And.right (And.right (by assumption))))))))))) | exact And.left (And.right (And.right (And.right (And.right (And.right (And.right (And.right (And.right (And.right (And.right (And.right (And.right (by assumption))))))))))))) | exact And.right (And.right (And.right (And.right (And.right (And.right (And.right (And.right (And.right (And.right (And.right (And.right (by assumption)))))))))))) | exact And.left (And.right (And.right (And.right (And.right (And.right (And.right (And.right (And.right (And.right (And.right (And.right (And.right (And.right (by assumption)))))))))))))) | exact And.right (And.right (And.right (And.right (And.right (And.right (And.right (And.right (And.right (And.right (And.right (And.right (And.right (by assumption)))))))))))))))
  (k_with "cj2" => (first | k_extra "cj" | exact Nat.lt_succ_of_lt (by k_extra "cj") | exact Nat.lt_succ_of_lt (Nat.lt_succ_of_lt (by k_extra "cj")) | exact Nat.lt_succ_self _))
  (k_with "om" => (first | (with_reducible assumption) | (with_reducible exact Nat.ne_of_gt (by k_extra "cj")) | (with_reducible exact Nat.ne_of_lt (by k_extra "cj")) | (with_reducible k_extra "cj2") | (with_reducible exact Nat.ne_of_lt (by k_extra "cj2")) | (with_reducible exact Nat.ne_of_gt (by k_extra "cj2")) | (with_reducible exact Ne.symm (by k_extra "cj")) | omega))
  (k_with "k_ne" => (refine neN ?_; (try dsimp only); k_extra "om"))
  trivial
/-- the invariant of the loops behind -/
noncomputable def TailJ (w : World) (J : Ids) (X : List (Addr × Obj)) (c5 c4 c3 c2 c1 lA : Addr) (lo : Obj) (cf : List (Bytes × Tok)) (rows : List Row) (m : Str → Option Value) (nx : List (Addr × Obj)) : Prop :=
  ∃ (u : Str → Option Value) (v : Vol) (c : Cel),
    m = (fun z => if z = Str.ofString "left" then some (.ref lA) else if z = Str.ofString "content" then some (.ref J.cA) else u z) ∧
    nx = (lA, lo) :: (c5, c.w5) :: (c4, c.w4) :: (c3, c.w3) :: (c2, c.w2) :: (c1, c.w1) :: led4T w J v.st v.tk v.tm v.ta v.tn v.tw v.tl v.atv v.hi v.nc v.ns X ∧
    (c.w5.data = Data.cell c.x5 ∧ c.w4.data = Data.cell (some (.ref J.x)) ∧ c.w3.data = Data.cell c.x3 ∧ c.w2.data = Data.cell c.x2 ∧ c.w1.data = Data.cell c.x1) ∧ Own J v.st X ∧ v.st.cs = cf ∧ v.st.rows = rows
theorem ra_sub {J : Ids} {st : St} {atv : Value} {wh : Int} {key : Bytes} {h : Heap} {v : Value} {st' : St} {atv' : Value} {h' : Heap} (po : RaPost J st atv wh key h v st' atv' h') : ∀ r ∈ st'.rows, r ∈ st.rows := by
  obtain ⟨us, _, ⟨t, i, _, _, _, _, rfl⟩ | ⟨_, _, rfl, _⟩⟩ := po
  · exact fun r hr => hr
  · exact fun r hr => hr
theorem statOf0 (st : St) (b : Bytes) (s : Int) : statOf st 0 b s = Str.ofString "00" := by unfold statOf; exact if_neg (fun q => absurd q.1 (by decide))
/-- the record that a sorted row stands for -/
theorem row_rec {st : St} {wh : Int} {us : List TRow} {t : TRow} {i : Nat} (hs : Sorted st wh us) (ht : t ∈ us) (hp : t.p = ((i : Nat) : Int)) : i < st.cs.length ∧ worthB wh (st.cs.getD i default).1 = t.b ∧ (st.rows.getD i row0).v.getD wh.toNat 0 = t.s := by
  obtain ⟨k, hk, e⟩ := List.mem_map.mp (hs.1.mem_iff.mp (List.mem_map_of_mem (f := TRow.key) ht))
  have e3 : ((k : Nat) : Int) = t.p := congrArg (fun x => x.2.2) e
  have e1 : worthB wh (st.cs.getD k default).1 = t.b := congrArg (fun x => x.1) e
  have e2 : (st.rows.getD k row0).v.getD wh.toNat 0 = t.s := congrArg (fun x => x.2.1) e
  have hki : k = i := by rw [hp] at e3; exact Int.ofNat.inj e3
  subst hki
  exact ⟨List.mem_range.mp hk, e1, e2⟩
theorem rec_row {st : St} {wh : Int} {us : List TRow} {i : Nat} (hs : Sorted st wh us) (hi : i < st.cs.length) : ∃ t ∈ us, t.p = ((i : Nat) : Int) ∧ t.b = worthB wh (st.cs.getD i default).1 ∧ t.s = (st.rows.getD i row0).v.getD wh.toNat 0 := by
  obtain ⟨t, ht, e⟩ := List.mem_map.mp (hs.1.mem_iff.mpr (List.mem_map_of_mem (f := keyAt st wh) (List.mem_range.mpr hi)))
  exact ⟨t, ht, congrArg (fun x => x.2.2) e, congrArg (fun x => x.1) e, congrArg (fun x => x.2.1) e⟩
/-- what the primes ask: found -/
theorem prime_found {st : St} {us : List TRow} {t : TRow} {i : Nat} {key : Bytes} {gs : List Bytes} (hsub : (st.cs.map (·.1)).Sublist c0) (hs : Sorted st 0 us) (hf : firstEq us key t) (hp : t.p = ((i : Nat) : Int))
    (hg : gs = (st.cs.map (·.1)).filter (fun b => (cut2 b).toList == key.toList)) : gs[0]? = some (st.cs.getD i default).1 := by
  obtain ⟨k, hk, hk2, _⟩ := hf
  obtain ⟨hi, e1, _⟩ := row_rec hs (List.mem_of_getElem? hk) hp
  have hm : (st.cs.getD i default).1 ∈ st.cs.map (·.1) := by
    rw [List.getD_eq_getElem?_getD, List.getElem?_eq_getElem hi]
    exact List.mem_map_of_mem (f := (·.1)) (List.getElem_mem hi)
  have hmc := hsub.subset hm
  have hin : (st.cs.getD i default).1 ∈ gs := by
    rw [hg]
    refine List.mem_filter.mpr ⟨hm, ?_⟩
    rw [cut2_c0 _ hmc, e1]; exact hk2
  cases hgs : gs with
  | nil => rw [hgs] at hin; cases hin
  | cons x r =>
    have hx : x ∈ gs := by rw [hgs]; exact .head _
    rw [hg] at hx
    obtain ⟨hx1, hx2⟩ := List.mem_filter.mp hx
    rw [cut2_c0 _ (hsub.subset hx1), toList_beq, decide_eq_true_iff] at hx2
    rw [toList_beq, decide_eq_true_iff] at hk2
    have := worth_inj _ (hsub.subset hx1) _ hmc (by rw [hx2, e1, hk2])
    rw [this]; rfl
theorem prime_none {st : St} {us : List TRow} {key : Bytes} {gs : List Bytes} (hsub : (st.cs.map (·.1)).Sublist c0) (hs : Sorted st 0 us) (hno : ∀ t ∈ us, (t.b.toList == key.toList) = false)
    (hg : gs = (st.cs.map (·.1)).filter (fun b => (cut2 b).toList == key.toList)) : gs = [] := by
  rw [hg]
  refine gone_none hsub fun b hb => ?_
  obtain ⟨j, hj, e⟩ := List.mem_iff_getElem.mp hb
  have hj' : j < st.cs.length := by simpa using hj
  obtain ⟨t, ht, _, e2, _⟩ := rec_row hs hj'
  have : worthB 0 b = t.b := by
    rw [e2, ← e, List.getD_eq_getElem?_getD, List.getElem?_eq_getElem hj']
    simp
  rw [this]; exact hno t ht
theorem m_pair_neN {prog : Program} {w : World} {A : Around} {E : Value → Shared → Prop} {s : Shared} {g : Heap} {L : Addr} {news : List (Addr × Obj)} {D D2 : Addr} {x y : Str} {b c : Bytes} {t1 t2 t3 t4 : Tok} {Q : Value → Shared → Prop} (N : News g L s.heap news) (h1 : (D, tupOf [.str x t1, .bytes b t2]) ∈ news) (h2 : (D2, tupOf [.str y t3, .bytes c t4]) ∈ news) (hu : A.units < cLine)
    (h : Q (.bool (!(x == y && b.toList == c.toList))) s) : wpAny (model prog w) A (compareOp .NotEq (.ref D) (.ref D2)) Q E s := m_pair_ne (N _ h1).1 (N _ h2).1 hu h
theorem m_first {prog : Program} {w : World} {A : Around} {E : Value → Shared → Prop} {s : Shared} {g : Heap} {L : Addr} {news : List (Addr × Obj)} {D : Addr} {gs : List (Bytes × Tok)} {n : Nat} {value slice : PySem.Expr} {u : Tok} {b : Bytes} {Q : Value → Shared → Prop} (N : News g L s.heap news) (hm : (D, listOf (gs.map rv).toArray n) ∈ news) (h0 : (gs.map (·.1))[0]? = some b) (h : ∀ t, Q (.bytes b t) s)
    (hs : subscripted slice false (.ref D) (.int 0 u) = operate [.ref D, .int 0 u] (getItem (.ref D) (.int 0 u)) := by with_unfolding_all rfl) : wpAny (model prog w) A (subscriptTail value slice (.ref D) (.int 0 u)) Q E s := by
  cases gs with
  | nil => simp at h0
  | cons r gs =>
    simp at h0
    subst h0
    have hl := isListOf (N _ hm).1
    exact tail_any hl.typeIs slot_list_getitem.lookup (wpAny_getItem_list hl (by omega) (by omega) (by rfl) (h _)) hs
noncomputable def cut3 (b : Bytes) : Bytes := KBy.picked b (some 2) none
theorem cut3_c0 : ∀ b ∈ c0, cut3 b = worthB 1 b := by decide +kernel
theorem mark_of {i : Nat} {v : Value} {t1 t2 t3 : Tok} (h : [Value.bytes #[120] t1, Value.bytes #[121] t2, Value.bytes #[122] t3][i]? = some v) : ∃ (mb : Bytes) (t : Tok), mb.size ≤ 1000 ∧ v = .bytes mb t := by
  rcases i with _ | _ | _ | i
  · simp at h; exact ⟨_, _, by decide, h.symm⟩
  · simp at h; exact ⟨_, _, by decide, h.symm⟩
  · simp at h; exact ⟨_, _, by decide, h.symm⟩
  · simp at h
theorem m_eq_nil {prog : Program} {w : World} {A : Around} {E : Value → Shared → Prop} {s : Shared} {g : Heap} {L : Addr} {news : List (Addr × Obj)} {D D2 : Addr} {ys : List Value} {n n2 : Nat} {Q : Value → Shared → Prop} (N : News g L s.heap news) (h1 : (D, listOf ys.toArray n) ∈ news) (h2 : (D2, listOf #[] n2) ∈ news) (hu : A.units < cLine) (h : Q (.bool (decide (ys = []))) s) :
    wpAny (model prog w) A (compareOp .Eq (.ref D) (.ref D2)) Q E s := by
  show wpAny (model prog w) A (richCompare .Eq (.ref D) (.ref D2)) Q E s
  have hl := isListOf (N _ h1).1
  have hb := isListOf (N _ h2).1
  cases ys with
  | nil => exact PySem.SeqAt.RcAt.lists hl hb rfl hu (e := fun _ => true) (fun j h1 _ => absurd h1 (Nat.not_lt_zero j)) prog w E Q h
  | cons y ys => exact PySem.SeqAt.RcAt.lists_lengths hl hb (by simp) hu prog w E Q h

theorem w_LV : True := by
  k_with_none
  (k_with "eval Name" => (k_here; k_dflt (refine' nameX_L (by k_asm) (by rfl) ?_ (by rfl) (by rfl); k_whole)))
  (k_with "cj" => (first | assumption | exact And.left (by assumption) | exact And.left (And.right (by assumption)) | exact And.right (by assumption) | exact And.left (And.right (And.right (by assumption))) | exact And.right (And.right (by assumption)) | exact And.left (And.right (And.right (And.right (by assumption)))) | exact And.right (And.right (And.right (by assumption))) | exact And.left (And.right (And.right (And.right (And.right (by assumption))))) | exact And.right (And.right (And.right (And.right (by assumption)))) | exact And.left (And.right (And.right (And.right (And.right (And.right (by assumption)))))) | exact And.right (And.right (And.right (And.right (And.right (by assumption))))) | exact And.left (And.right (And.right (And.right (And.right (And.right (And.right (by assumption))))))) | exact And.right (And.right (And.right (And.right (And.right (And.right (by assumption)))))) | exact And.left (And.right (And.right (And.right (And.right (And.right (And.right (And.right (by assumption)))))))) | exact And.right (And.right (And.right (And.right (And.right (And.right (And.right (by assumption))))))) | exact And.left (And.right (And.right (And.right (And.right (And.right (And.right (And.right (And.right (by assumption))))))))) | exact And.right (And.right (And.right (And.right (And.right (And.right (And.right (And.right (by assumption)))))))) | exact And.left (And.right (And.right (And.right (And.right (And.right (And.right (And.right (And.right (And.right (by assumption)))))))))) | exact And.right (And.right (And.right (And.right (And.right (And.right (And.right (And.right (And.right (by assumption))))))))) | exact And.left (And.right (And.right (And.right (And.right (And.right (And.right (And.right (And.right (And.right (And.right (by assumption))))))))))) | exact And.right (And.right (And.right (And.right (And.right (And.right (And.right (And.right (And.right (And.right (by assumption)))))))))) | exact And.left (And.right (And.right (And.right (And.right (And.right (And.right (And.right (And.right (And.right (And.right (And.right (by assumption)))))))))))) | exact And.right (And.right (And.right (And.right (And.right (And.right (And.right (And.right (And.right (And.right (And.right (by assumption))))))))))) | exact And.left (And.right (And.right (And.right (And.right (And.right (And.right (And.right (And.right (And.right (And.right (And.right (And.right (by assumption))))))))))))) | exact And.right (And.right (And.right (And.right (And.right (And.right (And.right (And.right (And.right (And.right (And.right (And.right (by assumption)))))))))))) | exact And.left (And.right (And.right (And.right (And.right (And.right (And.right (And.right (And.right (And.right (And.right (And.right (And.right (And.right (by assumption)))))))))))))) | exact And.right (And.right (And.right (And.right (And.right (And.right (And.right (And.right (And.right (And.right (And.right (And.right (And.right (by assumption)))))))))))))))
  (k_with "cj2" => (first | k_extra "cj" | exact Nat.lt_succ_of_lt (by k_extra "cj") | exact Nat.lt_succ_of_lt (Nat.lt_succ_of_lt (by k_extra "cj")) | exact Nat.lt_succ_self _))
  (k_with "om" => (first | (with_reducible assumption) | (with_reducible exact Nat.ne_of_gt (by k_extra "cj")) | (with_reducible exact Nat.ne_of_lt (by k_extra "cj")) | (with_reducible k_extra "cj2") | (with_reducible exact Nat.ne_of_lt (by k_extra "cj2")) | (with_reducible exact Nat.ne_of_gt (by k_extra "cj2")) | (with_reducible exact Ne.symm (by k_extra "cj")) | omega))
  (k_with "k_ne" => (refine neN ?_; (try dsimp only); k_extra "om"))
  trivial
theorem keyLt_le {x y : TRow} (h : keyLt x.key y.key = true) (e : x.b = y.b) : x.s ≤ y.s := by
  have h1 : (if (x.s == y.s) = true then decide (x.p < y.p) else decide (x.s < y.s)) = true := by
    have h2 := h
    unfold keyLt at h2
    rwa [if_pos (show (x.b.toList == y.b.toList) = true by rw [e]; simp)] at h2
  by_cases q : x.s = y.s
  · omega
  · rw [if_neg (by simpa using q)] at h1
    have := of_decide_eq_true h1
    omega
/-- of a sorted list of rows: a row ahead of another of the same worth has no greater stamp -/
theorem sorted_ahead {st : St} {wh : Int} {us : List TRow} (hs : Sorted st wh us) {j k : Nat} {x y : TRow} (hj : us[j]? = some x) (hk : us[k]? = some y) (hlt : @LT.lt Nat _ j k) (e : x.b = y.b) : x.s ≤ y.s := by
  obtain ⟨hj1, rfl⟩ := List.getElem?_eq_some_iff.mp hj
  obtain ⟨hk1, rfl⟩ := List.getElem?_eq_some_iff.mp hk
  exact keyLt_le (List.pairwise_iff_getElem.mp hs.2 j k hj1 hk1 hlt) e
/-- the head of a filter is the first that passes -/
theorem filter_head {α : Type} (p : α → Bool) : ∀ (l : List α) (i : Nat) (a : α), l[i]? = some a → p a = true → (∀ j b, @LT.lt Nat _ j i → l[j]? = some b → p b = false) → (l.filter p)[0]? = some a
  | [], i, a, h, _, _ => by simp at h
  | x :: l, 0, a, h, hp, _ => by
    simp only [List.getElem?_cons_zero, Option.some.injEq] at h
    subst h
    rw [List.filter_cons_of_pos hp]; rfl
  | x :: l, i + 1, a, h, hp, hn => by
    have h0 := hn 0 x (Nat.succ_pos i) rfl
    rw [List.filter_cons_of_neg (by simp [h0])]
    exact filter_head p l i a (by simpa using h) hp fun j b hj hb => hn (j + 1) b (by omega) (by simpa using hb)
theorem stamp_at {st : St} (hr : st.rows.map (·.v) = (List.range st.cs.length).map fun (i : Nat) => [(i : Int), (i : Int)]) {i : Nat} (hi : i < st.cs.length) : (st.rows.getD i row0).v.getD (Int.toNat 1) 0 = (i : Int) := by
  have e := congrArg (fun l => l[i]?) hr
  simp only [List.getElem?_map, List.getElem?_range hi, Option.map_some] at e
  cases q : st.rows[i]? with
  | none => rw [q] at e; cases e
  | some r =>
    rw [q] at e
    simp only [Option.map_some, Option.some.injEq] at e
    have g : st.rows.getD i row0 = r := by rw [List.getD_eq_getElem?_getD, q]; rfl
    rw [g, e]; rfl
/-- what the marks ask: found -/
theorem mark_found {st : St} {us : List TRow} {t : TRow} {i : Nat} {key : Bytes} {gs : List Bytes} (hsub : (st.cs.map (·.1)).Sublist c0) (hr : st.rows.map (·.v) = (List.range st.cs.length).map fun (i : Nat) => [(i : Int), (i : Int)]) (hs : Sorted st 1 us) (hf : firstEq us key t) (hp : t.p = ((i : Nat) : Int))
    (hg : gs = (st.cs.map (·.1)).filter (fun b => (cut3 b).toList == key.toList)) : gs[0]? = some (st.cs.getD i default).1 := by
  obtain ⟨k, hk, hk2, hk3⟩ := hf
  obtain ⟨hi, e1, e2⟩ := row_rec hs (List.mem_of_getElem? hk) hp
  rw [stamp_at hr hi] at e2
  rw [toList_beq, decide_eq_true_iff] at hk2
  have at_ : ∀ j, j < st.cs.length → (st.cs.map (·.1))[j]? = some (st.cs.getD j default).1 := fun j hj => by
    rw [List.getElem?_map, List.getElem?_eq_getElem hj, List.getD_eq_getElem?_getD, List.getElem?_eq_getElem hj]; rfl
  have cutw : ∀ j, j < st.cs.length → cut3 (st.cs.getD j default).1 = worthB 1 (st.cs.getD j default).1 := fun j hj => cut3_c0 _ (hsub.subset (List.mem_of_getElem? (at_ j hj)))
  rw [hg]
  refine filter_head _ _ i _ (at_ i hi) ?_ fun j b hj hb => ?_
  · rw [cutw i hi, e1, toList_beq, decide_eq_true_iff]; exact hk2
  · have hj' : j < st.cs.length := by omega
    rw [at_ j hj'] at hb
    cases hb
    cases q : ((cut3 (st.cs.getD j default).1).toList == key.toList) with
    | false => rfl
    | true =>
      exfalso
      rw [cutw j hj', toList_beq, decide_eq_true_iff] at q
      obtain ⟨x, hx, _, x2, x3⟩ := rec_row hs hj'
      rw [stamp_at hr hj'] at x3
      obtain ⟨n, hn, en⟩ := List.mem_iff_getElem.mp hx
      have hn' : us[n]? = some x := by rw [List.getElem?_eq_getElem hn, en]
      have hxb : x.b = key := by rw [x2, q]
      rcases Nat.lt_trichotomy n k with h | h | h
      · have := hk3 n x h hn'
        rw [hxb] at this
        simp at this
      · subst h
        rw [hn'] at hk
        have := Option.some.inj hk
        subst this
        omega
      · have := sorted_ahead hs hk hn' h (by rw [hk2, hxb])
        omega

theorem w_LW : True := by
  k_with_none
  (k_with "eval Name" => (k_here; k_dflt (refine' nameX_L (by k_asm) (by rfl) ?_ (by rfl) (by rfl); k_whole)))
  (k_with "cj" => (first | assumption | exact And.left (by assumption) | exact And.left (And.right (by assumption)) | exact And.right (by assumption) | exact And.left (And.right (And.right (by assumption))) | exact And.right (And.right (by assumption)) | exact And.left (And.right (And.right (And.right (by assumption)))) | exact And.right (And.right (And.right (by assumption))) | exact And.left (And.right (And.right (And.right (And.right (by assumption))))) | exact And.right (And.right (And.right (And.right (by assumption)))) | exact And.left (And.right (And.right (And.right (And.right (And.right (by assumption)))))) | exact And.right (And.right (And.right (And.right (And.right (by assumption))))) | exact And.left (And.right (And.right (And.right (And.right (And.right (And.right (by assumption))))))) | exact And.right (And.right (And.right (And.right (And.right (And.right (by assumption)))))) | exact And.left (And.right (And.right (And.right (And.right (And.right (And.right (And.right (by assumption)))))))) | exact And.right (And.right (And.right (And.right (And.right (And.right (And.right (by assumption))))))) | exact And.left (And.right (And.right (And.right (And.right (And.right (And.right (And.right (And.right (by assumption))))))))) | exact And.right (And.right (And.right (And.right (And.right (And.right (And.right (And.right (by assumption)))))))) | exact And.left (And.right (And.right (And.right (And.right (And.right (And.right (And.right (And.right (And.right (by assumption)))))))))) | exact And.right (And.right (And.right (And.right (And.right (And.right (And.right (And.right (And.right (by assumption))))))))) | exact And.left (And.right (And.right (And.right (And.right (And.right (And.right (And.right (And.right (And.right (And.right (by assumption))))))))))) | exact And.right (And.right (And.right (And.right (And.right (And.right (And.right (And.right (And.right (And.right (by assumption)))))))))) | exact And.left (And.right (And.right (And.right (And.right (And.right (And.right (And.right (And.right (And.right (And.right (And.right (by assumption)))))))))))) | exact And.right (And.right (And.right (And.right (And.right (And.right (And.right (And.right (And.right (And.right (And.right (by assumption))))))))))) | exact And.left (And.right (And.right (And.right (And.right (And.right (And.right (And.right (And.right (And.right (And.right (And.right (And.right (by assumption))))))))))))) | exact And.right (And.right (And.right (And.right (And.right (And.right (And.right (And.right (And.right (And.right (And.right (And.right (by assumption)))))))))))) | exact And.left (And.right (And.right (And.right (And.right (And.right (And.right (And.right (And.right (And.right (And.right (And.right (And.right (And.right (by assumption)))))))))))))) | exact And.right (And.right (And.right (And.right (And.right (And.right (And.right (And.right (And.right (And.right (And.right (And.right (And.right (by assumption)))))))))))))))
  (k_with "cj2" => (first | k_extra "cj" | exact Nat.lt_succ_of_lt (by k_extra "cj") | exact Nat.lt_succ_of_lt (Nat.lt_succ_of_lt (by k_extra "cj")) | exact Nat.lt_succ_self _))
  (k_with "om" => (first | (with_reducible assumption) | (with_reducible exact Nat.ne_of_gt (by k_extra "cj")) | (with_reducible exact Nat.ne_of_lt (by k_extra "cj")) | (with_reducible k_extra "cj2") | (with_reducible exact Nat.ne_of_lt (by k_extra "cj2")) | (with_reducible exact Nat.ne_of_gt (by k_extra "cj2")) | (with_reducible exact Ne.symm (by k_extra "cj")) | omega))
  (k_with "k_ne" => (refine neN ?_; (try dsimp only); k_extra "om"))
  trivial
theorem mark_none {st : St} {us : List TRow} {key : Bytes} {gs : List Bytes} (hsub : (st.cs.map (·.1)).Sublist c0) (hs : Sorted st 1 us) (hno : ∀ t ∈ us, (t.b.toList == key.toList) = false)
    (hg : gs = (st.cs.map (·.1)).filter (fun b => (cut3 b).toList == key.toList)) : gs = [] := by
  rw [hg]
  refine List.filter_eq_nil_iff.mpr fun b hb => ?_
  rw [cut3_c0 b (hsub.subset hb)]
  obtain ⟨j, hj, e⟩ := List.mem_iff_getElem.mp hb
  have hj' : j < st.cs.length := by simpa using hj
  obtain ⟨t, ht, _, e2, _⟩ := rec_row hs hj'
  have : worthB 1 b = t.b := by
    rw [e2, ← e, List.getD_eq_getElem?_getD, List.getElem?_eq_getElem hj']
    simp
  rw [this, hno t ht]; decide
theorem filter_first {α : Type} (p : α → Bool) : ∀ (l : List α) (i : Nat) (a : α), l[i]? = some a → p a = true → (∀ j b, @LT.lt Nat _ j i → l[j]? = some b → p b = false) → l.filter p = a :: (l.drop (i + 1)).filter p
  | [], i, a, h, _, _ => by simp at h
  | x :: l, 0, a, h, hp, _ => by
    simp only [List.getElem?_cons_zero, Option.some.injEq] at h
    subst h
    rw [List.filter_cons_of_pos hp]; rfl
  | x :: l, i + 1, a, h, hp, hn => by
    have h0 := hn 0 x (Nat.succ_pos i) rfl
    rw [List.filter_cons_of_neg (by simp [h0])]
    exact filter_first p l i a (by simpa using h) hp fun j b hj hb => hn (j + 1) b (by omega) (by simpa using hb)
theorem filter_more {α : Type} (p : α → Bool) {l : List α} {i : Nat} {a : α} (h : l[i]? = some a) (hp : p a = true) (hn : ∀ j b, @LT.lt Nat _ j i → l[j]? = some b → p b = false) : 1 < (l.filter p).length ↔ ∃ j b, @LT.lt Nat _ i j ∧ l[j]? = some b ∧ p b = true := by
  rw [filter_first p l i a h hp hn, List.length_cons]
  constructor
  · intro h1
    have h2 : 0 < ((l.drop (i + 1)).filter p).length := by omega
    obtain ⟨b, hb⟩ := List.exists_mem_of_length_pos h2
    obtain ⟨hb1, hb2⟩ := List.mem_filter.mp hb
    obtain ⟨k, hk, e⟩ := List.mem_iff_getElem.mp hb1
    refine ⟨i + 1 + k, b, by omega, ?_, hb2⟩
    have := List.getElem?_eq_getElem hk
    rw [List.getElem?_drop] at this
    rw [this, e]
  · rintro ⟨j, b, hj, hb, hpb⟩
    have hm : b ∈ (l.drop (i + 1)).filter p := by
      refine List.mem_filter.mpr ⟨List.mem_of_getElem? (i := j - (i + 1)) ?_, hpb⟩
      rw [List.getElem?_drop, show i + 1 + (j - (i + 1)) = j by omega]; exact hb
    have := List.length_pos_of_mem hm
    omega

theorem w_LX : True := by
  k_with_none
  (k_with "eval Name" => (k_here; k_dflt (refine' nameX_L (by k_asm) (by rfl) ?_ (by rfl) (by rfl); k_whole)))
  (k_with "cj" => (first | assumption | exact And.left (by assumption) | exact And.left (And.right (by assumption)) | exact And.right (by assumption) | exact And.left (And.right (And.right (by assumption))) | exact And.right (And.right (by assumption)) | exact And.left (And.right (And.right (And.right (by assumption)))) | exact And.right (And.right (And.right (by assumption))) | exact And.left (And.right (And.right (And.right (And.right (by assumption))))) | exact And.right (And.right (And.right (And.right (by assumption)))) | exact And.left (And.right (And.right (And.right (And.right (And.right (by assumption)))))) | exact And.right (And.right (And.right (And.right (And.right (by assumption))))) | exact And.left (And.right (And.right (And.right (And.right (And.right (And.right (by assumption))))))) | exact And.right (And.right (And.right (And.right (And.right (And.right (by assumption)))))) | exact And.left (And.right (And.right (And.right (And.right (And.right (And.right (And.right (by assumption)))))))) | exact And.right (And.right (And.right (And.right (And.right (And.right (And.right (by assumption))))))) | exact And.left (And.right (And.right (And.right (And.right (And.right (And.right (And.right (And.right (by assumption))))))))) | exact And.right (And.right (And.right (And.right (And.right (And.right (And.right (And.right (by assumption)))))))) | exact And.left (And.right (And.right (And.right (And.right (And.right (And.right (And.right (And.right (And.right (by assumption)))))))))) | exact And.right (And.right (And.right (And.right (And.right (And.right (And.right (And.right (And.right (by assumption))))))))) | exact And.left (And.right (And.right (And.right (And.right (And.right (And.right (And.right (And.right (And.right (And.right (by assumption))))))))))) | exact And.right (And.right (And.right (And.right (And.right (And.right (And.right (And.right (And.right (And.right (by assumption)))))))))) | exact And.left (And.right (And.right (And.right (And.right (And.right (And.right (And.right (And.right (And.right (And.right (And.right (by assumption)))))))))))) | exact And.right (And.right (And.right (And.right (And.right (And.right (And.right (And.right (And.right (And.right (And.right (by assumption))))))))))) | exact And.left (And.right (And.right (And.right (And.right (And.right (And.right (And.right (And.right (And.right (And.right (And.right (And.right (by assumption))))))))))))) | exact And.right (And.right (And.right (And.right (And.right (And.right (And.right (And.right (And.right (And.right (And.right (And.right (by assumption)))))))))))) | exact And.left (And.right (And.right (And.right (And.right (And.right (And.right (And.right (And.right (And.right (And.right (And.right (And.right (And.right (by assumption)))))))))))))) | exact And.right (And.right (And.right (And.right (And.right (And.right (And.right (And.right (And.right (And.right (And.right (And.right (And.right (by assumption)))))))))))))))
  (k_with "cj2" => (first | k_extra "cj" | exact Nat.lt_succ_of_lt (by k_extra "cj") | exact Nat.lt_succ_of_lt (Nat.lt_succ_of_lt (by k_extra "cj")) | exact Nat.lt_succ_self _))
  (k_with "om" => (first | (with_reducible assumption) | (with_reducible exact Nat.ne_of_gt (by k_extra "cj")) | (with_reducible exact Nat.ne_of_lt (by k_extra "cj")) | (with_reducible k_extra "cj2") | (with_reducible exact Nat.ne_of_lt (by k_extra "cj2")) | (with_reducible exact Nat.ne_of_gt (by k_extra "cj2")) | (with_reducible exact Ne.symm (by k_extra "cj")) | omega))
  (k_with "k_ne" => (refine neN ?_; (try dsimp only); k_extra "om"))
  trivial
/-- the row that a mark finds is the first record of the mark -/
theorem mark_first {st : St} {us : List TRow} {t : TRow} {i : Nat} {key : Bytes} (hsub : (st.cs.map (·.1)).Sublist c0) (hr : st.rows.map (·.v) = (List.range st.cs.length).map fun (i : Nat) => [(i : Int), (i : Int)]) (hs : Sorted st 1 us) (hf : firstEq us key t) (hp : t.p = ((i : Nat) : Int)) :
    i < st.cs.length ∧ t.b = key ∧ t.s = (i : Int) ∧ (st.cs.map (·.1))[i]? = some (st.cs.getD i default).1 ∧ ((cut3 (st.cs.getD i default).1).toList == key.toList) = true ∧ ∀ j b, @LT.lt Nat _ j i → (st.cs.map (·.1))[j]? = some b → ((cut3 b).toList == key.toList) = false := by
  obtain ⟨k, hk, hk2, hk3⟩ := hf
  obtain ⟨hi, e1, e2⟩ := row_rec hs (List.mem_of_getElem? hk) hp
  rw [stamp_at hr hi] at e2
  rw [toList_beq, decide_eq_true_iff] at hk2
  have at_ : ∀ j, j < st.cs.length → (st.cs.map (·.1))[j]? = some (st.cs.getD j default).1 := fun j hj => by
    rw [List.getElem?_map, List.getElem?_eq_getElem hj, List.getD_eq_getElem?_getD, List.getElem?_eq_getElem hj]; rfl
  have cutw : ∀ j, j < st.cs.length → cut3 (st.cs.getD j default).1 = worthB 1 (st.cs.getD j default).1 := fun j hj => cut3_c0 _ (hsub.subset (List.mem_of_getElem? (at_ j hj)))
  refine ⟨hi, hk2, e2.symm, at_ i hi, by rw [cutw i hi, e1, toList_beq, decide_eq_true_iff]; exact hk2, fun j b hj hb => ?_⟩
  have hj' : j < st.cs.length := by omega
  rw [at_ j hj'] at hb
  cases hb
  cases q : ((cut3 (st.cs.getD j default).1).toList == key.toList) with
  | false => rfl
  | true =>
    exfalso
    rw [cutw j hj', toList_beq, decide_eq_true_iff] at q
    obtain ⟨x, hx, _, x2, x3⟩ := rec_row hs hj'
    rw [stamp_at hr hj'] at x3
    obtain ⟨n, hn, en⟩ := List.mem_iff_getElem.mp hx
    have hn' : us[n]? = some x := by rw [List.getElem?_eq_getElem hn, en]
    have hxb : x.b = key := by rw [x2, q]
    rcases Nat.lt_trichotomy n k with h | h | h
    · have := hk3 n x h hn'
      rw [hxb] at this
      simp at this
    · subst h
      rw [hn'] at hk
      have := Option.some.inj hk
      subst this
      omega
    · have := sorted_ahead hs hk hn' h (by rw [hk2, hxb])
      omega
/-- and its status tells whether there are more -/
theorem mark_stat {st : St} {us : List TRow} {t : TRow} {i : Nat} {key : Bytes} {gs : List Bytes} (hsub : (st.cs.map (·.1)).Sublist c0) (hr : st.rows.map (·.v) = (List.range st.cs.length).map fun (i : Nat) => [(i : Int), (i : Int)]) (hs : Sorted st 1 us) (hf : firstEq us key t) (hp : t.p = ((i : Nat) : Int))
    (hg : gs = (st.cs.map (·.1)).filter (fun b => (cut3 b).toList == key.toList)) : statOf st 1 t.b t.s = if 1 < gs.length then Str.ofString "02" else Str.ofString "00" := by
  obtain ⟨hi, eb, es, hat, hpi, hlt⟩ := mark_first hsub hr hs hf hp
  have hm := filter_more (fun b => (cut3 b).toList == key.toList) hat hpi hlt
  rw [← hg] at hm
  have at_ : ∀ j, j < st.cs.length → (st.cs.map (·.1))[j]? = some (st.cs.getD j default).1 := fun j hj => by
    rw [List.getElem?_map, List.getElem?_eq_getElem hj, List.getD_eq_getElem?_getD, List.getElem?_eq_getElem hj]; rfl
  have cutw : ∀ j, j < st.cs.length → cut3 (st.cs.getD j default).1 = worthB 1 (st.cs.getD j default).1 := fun j hj => cut3_c0 _ (hsub.subset (List.mem_of_getElem? (at_ j hj)))
  have hmo : moreOf st 1 t.b t.s = true ↔ 1 < gs.length := by
    rw [hm]
    unfold moreOf
    rw [List.any_eq_true]
    constructor
    · rintro ⟨j, hj, h⟩
      have hj' := List.mem_range.mp hj
      rw [Bool.and_eq_true, decide_eq_true_iff] at h
      obtain ⟨h1, h2⟩ := h
      have h2 : t.s < (st.rows.getD j row0).v.getD (Int.toNat 1) 0 := h2
      rw [stamp_at hr hj', es] at h2
      refine ⟨j, _, by omega, at_ j hj', ?_⟩
      rw [cutw j hj', ← eb]; exact h1
    · rintro ⟨j, b, hj, hb, hpb⟩
      have hj' : j < st.cs.length := by
        have := (List.getElem?_eq_some_iff.mp hb).1
        simpa using this
      rw [at_ j hj'] at hb
      cases hb
      refine ⟨j, List.mem_range.mpr hj', ?_⟩
      rw [Bool.and_eq_true, decide_eq_true_iff]
      refine ⟨?_, ?_⟩
      · have := hpb
        rw [cutw j hj', ← eb] at this; exact this
      · show t.s < (st.rows.getD j row0).v.getD (Int.toNat 1) 0
        rw [stamp_at hr hj', es]; omega
  unfold statOf
  by_cases q : 1 < gs.length
  · rw [if_pos q, if_pos ⟨by decide, hmo.mpr q⟩]
  · rw [if_neg q, if_neg fun z => q (hmo.mp z.2)]

theorem w_LY : True := by
  k_with_none
  (k_with "eval Name" => (k_here; k_dflt (refine' nameX_L (by k_asm) (by rfl) ?_ (by rfl) (by rfl); k_whole)))
  (k_with "cj" => (first | assumption | exact And.left (by assumption) | exact And.left (And.right (by assumption)) | exact And.right (by assumption) | exact And.left (And.right (And.right (by assumption))) | exact And.right (And.right (by assumption)) | exact And.left (And.right (And.right (And.right (by assumption)))) | exact And.right (And.right (And.right (by assumption))) | exact And.left (And.right (And.right (And.right (And.right (by assumption))))) | exact And.right (And.right (And.right (And.right (by assumption)))) | exact And.left (And.right (And.right (And.right (And.right (And.right (by assumption)))))) | exact And.right (And.right (And.right (And.right (And.right (by assumption))))) | exact And.left (And.right (And.right (And.right (And.right (And.right (And.right (by assumption))))))) | exact And.right (And.right (And.right (And.right (And.right (And.right (by assumption)))))) | exact And.left (And.right (And.right (And.right (And.right (And.right (And.right (And.right (by assumption)))))))) | exact And.right (And.right (And.right (And.right (And.right (And.right (And.right (by assumption))))))) | exact And.left (And.right (And.right (And.right (And.right (And.right (And.right (And.right (And.right (by assumption))))))))) | exact And.right (And.right (And.right (And.right (And.right (And.right (And.right (And.right (by assumption)))))))) | exact And.left (And.right (And.right (And.right (And.right (And.right (And.right (And.right (And.right (And.right (by assumption)))))))))) | exact And.right (And.right (And.right (And.right (And.right (And.right (And.right (And.right (And.right (by assumption))))))))) | exact And.left (And.right (And.right (And.right (And.right (And.right (And.right (And.right (And.right (And.right (And.right (by assumption))))))))))) | exact And.right (And.right (And.right (And.right (And.right (And.right (And.right (And.right (And.right (And.right (by assumption)))))))))) | exact And.left (And.right (And.right (And.right (And.right (And.right (And.right (And.right (And.right (And.right (And.right (And.right (by assumption)))))))))))) | exact And.right (And.right (And.right (And.right (And.right (And.right (And.right (And.right (And.right (And.right (And.right (by assumption))))))))))) | exact And.left (And.right (And.right (And.right (And.right (And.right (And.right (And.right (And.right (And.right (And.right (And.right (And.right (by assumption))))))))))))) | exact And.right (And.right (And.right (And.right (And.right (And.right (And.right (And.right (And.right (And.right (And.right (And.right (by assumption)))))))))))) | exact And.left (And.right (And.right (And.right (And.right (And.right (And.right (And.right (And.right (And.right (And.right (And.right (And.right (And.right (by assumption)))))))))))))) | exact And.right (And.right (And.right (And.right (And.right (And.right (And.right (And.right (And.right (And.right (And.right (And.right (And.right (by assumption)))))))))))))))
  (k_with "cj2" => (first | k_extra "cj" | exact Nat.lt_succ_of_lt (by k_extra "cj") | exact Nat.lt_succ_of_lt (Nat.lt_succ_of_lt (by k_extra "cj")) | exact Nat.lt_succ_self _))
  (k_with "om" => (first | (with_reducible assumption) | (with_reducible exact Nat.ne_of_gt (by k_extra "cj")) | (with_reducible exact Nat.ne_of_lt (by k_extra "cj")) | (with_reducible k_extra "cj2") | (with_reducible exact Nat.ne_of_lt (by k_extra "cj2")) | (with_reducible exact Nat.ne_of_gt (by k_extra "cj2")) | (with_reducible exact Ne.symm (by k_extra "cj")) | omega))
  (k_with "k_ne" => (refine neN ?_; (try dsimp only); k_extra "om"))
  trivial
/-- where the file stands: a tuple of the ledger, or of the ground -/
noncomputable def AtW (h₀ : Heap) (adr : List Addr) (p : Addr × Obj) (atv : Value) (b : Bytes) (i : Int) : Prop :=
  p.1 ∉ adr ∧ ∃ tA t1 t2, atv = .ref tA ∧ tA ∉ adr ∧ (p = (tA, tupOf [.bytes b t1, .int i t2]) ∨ h₀.get? tA = some (tupOf [.bytes b t1, .int i t2]))
theorem AtW.is {h₀ h : Heap} {L : Addr} {m : Str → Option Value} {nx : List (Addr × Obj)} {adr : List Addr} {p : Addr × Obj} {atv : Value} {b : Bytes} {i : Int} (W : AtW h₀ adr p atv b i) (F : Fr h₀ L h m) (N : News h₀ L h nx) (hp : p ∈ nx) : AtIs (hideAll h adr) atv b i := by
  obtain ⟨_, tA, t1, t2, rfl, hA, rfl | e⟩ := W
  · exact ⟨tA, t1, t2, rfl, hideAll_get _ (N _ hp).1 hA⟩
  · exact ⟨tA, t1, t2, rfl, hideAll_get _ (F.keep _ _ e) hA⟩
theorem at_led {h₀ h : Heap} {L : Addr} {m : Str → Option Value} {nx : List (Addr × Obj)} {adr : List Addr} {d : Addr × Obj} {atv : Value} {b : Bytes} {i : Int} (F : Fr h₀ L h m) (N : News h₀ L h nx) (hd : d ∈ nx) (hda : d.1 ∉ adr) (A : AtIs (hideAll h adr) atv b i) : ∃ p, News h₀ L h (p :: nx) ∧ AtW h₀ adr p atv b i := by
  obtain ⟨tA, t1, t2, rfl, e⟩ := A
  have hA : tA ∉ adr := fun q => by rw [hideAll_none _ q] at e; cases e
  have e := of_hideAll _ e
  cases q : h₀.get? tA with
  | none =>
    refine ⟨(tA, tupOf [.bytes b t1, .int i t2]), fun p hp => ?_, hA, tA, t1, t2, rfl, hA, .inl rfl⟩
    rcases List.mem_cons.mp hp with rfl | hp
    · refine ⟨e, fun e2 => ?_, q⟩
      obtain ⟨oL, _, _, eL, h3⟩ := F.ns
      have e2 : tA = L := e2
      rw [← e2, e] at eL
      cases eL
      obtain ⟨h4, _⟩ := h3
      cases h4
    · exact N p hp
  | some o =>
    have := F.keep _ _ q
    rw [e] at this
    cases this
    refine ⟨d, fun p hp => ?_, hda, tA, t1, t2, rfl, hA, .inr q⟩
    rcases List.mem_cons.mp hp with rfl | hp
    · exact N _ hd
    · exact N p hp
theorem at_new {h₀ g h : Heap} {L : Addr} {m : Str → Option Value} {nx : List (Addr × Obj)} {adr : List Addr} {d : Addr × Obj} {atv : Value} {b : Bytes} {i : Int} (F : Fr h₀ L h m) (N : News h₀ L h nx) (hd : d ∈ nx) (hda : d.1 ∉ adr) (A : AtN g (hideAll h adr) atv b i) : ∃ p, News h₀ L h (p :: nx) ∧ AtW h₀ adr p atv b i ∧ (p = d ∨ g.get? p.1 = none) := by
  obtain ⟨tA, t1, t2, rfl, e, en⟩ := A
  have hA : tA ∉ adr := fun q => by rw [hideAll_none _ q] at e; cases e
  have e := of_hideAll _ e
  cases q : h₀.get? tA with
  | none =>
    refine ⟨(tA, tupOf [.bytes b t1, .int i t2]), fun p hp => ?_, ⟨hA, tA, t1, t2, rfl, hA, .inl rfl⟩, .inr en⟩
    rcases List.mem_cons.mp hp with rfl | hp
    · refine ⟨e, fun e2 => ?_, q⟩
      obtain ⟨oL, _, _, eL, h3⟩ := F.ns
      have e2 : tA = L := e2
      rw [← e2, e] at eL
      cases eL
      obtain ⟨h4, _⟩ := h3
      cases h4
    · exact N p hp
  | some o =>
    have := F.keep _ _ q
    rw [e] at this
    cases this
    refine ⟨d, fun p hp => ?_, ⟨hda, tA, t1, t2, rfl, hA, .inr q⟩, .inl rfl⟩
    rcases List.mem_cons.mp hp with rfl | hp
    · exact N _ hd
    · exact N p hp
theorem ltL_asymm {a b : List UInt8} (h : ltL a b = true) : ltL b a = false := by
  cases q : ltL b a with
  | false => rfl
  | true =>
    have := ltL_trans _ _ _ h q
    rw [ltL_irrefl] at this; cases this
theorem sorted_uniq {l l' : List Bytes} (hp : l.Perm l') (h : l.Pairwise fun a b => ltL a.toList b.toList = true) (h' : l'.Pairwise fun a b => ltL a.toList b.toList = true) : l = l' :=
  List.Perm.eq_of_pairwise (fun a b _ _ h1 h2 => by rw [ltL_asymm h1] at h2; cases h2) h h' hp
theorem c0_tri {B : List Bytes} (h : B.Nodup) : B.Pairwise fun a b => ltL a.toList b.toList = !ltL b.toList a.toList :=
  List.Pairwise.imp (fun e => ltL_tri _ _ fun q => e (Array.toList_inj.mp q)) h
/-- the record that a row stands for -/
noncomputable def recB (st : St) (t : TRow) : Bytes := (st.cs.getD t.p.toNat default).1
theorem worth_lt : ∀ a ∈ c0, ∀ b ∈ c0, ltL (worthB 0 a).toList (worthB 0 b).toList = true → ltL a.toList b.toList = true := by decide +kernel
theorem worth_cut : ∀ a ∈ c0, ∀ b ∈ c0, ((worthB 0 b).toList == (worthB 0 a ++ #[0]).toList) = false ∧ ltL (worthB 0 a ++ #[0]).toList (worthB 0 b).toList = ltL a.toList b.toList := by decide +kernel
theorem worth_pos : ∀ b ∈ c0, ((worthB 0 b).toList == (#[] : Bytes).toList) = false ∧ ltL (#[] : Bytes).toList (worthB 0 b).toList = true := by decide +kernel
theorem rec_of {st : St} {us : List TRow} {t : TRow} (hs : Sorted st 0 us) (ht : t ∈ us) : ∃ i : Nat, t.p = (i : Int) ∧ i < st.cs.length ∧ (st.cs.map (·.1))[i]? = some (recB st t) ∧ worthB 0 (recB st t) = t.b ∧ t.s = (st.rows.getD i row0).v.getD 0 0 := by
  obtain ⟨k, hk, e⟩ := List.mem_map.mp (hs.1.mem_iff.mp (List.mem_map_of_mem (f := TRow.key) ht))
  have e3 : ((k : Nat) : Int) = t.p := congrArg (fun x => x.2.2) e
  obtain ⟨hi, e1, e2⟩ := row_rec hs ht e3.symm
  have er : recB st t = (st.cs.getD k default).1 := by unfold recB; rw [← e3]; rfl
  refine ⟨k, e3.symm, hi, ?_, by rw [er, e1], e2.symm⟩
  rw [er, List.getElem?_map, List.getElem?_eq_getElem hi, List.getD_eq_getElem?_getD, List.getElem?_eq_getElem hi]; rfl
theorem row_for {st : St} {us : List TRow} {r : Bytes} (hs : Sorted st 0 us) (hr : r ∈ st.cs.map (·.1)) : ∃ t ∈ us, recB st t = r := by
  obtain ⟨j, hj, e⟩ := List.mem_iff_getElem.mp hr
  have hj' : j < st.cs.length := by simpa using hj
  obtain ⟨t, ht, e1, _⟩ := rec_row hs hj'
  refine ⟨t, ht, ?_⟩
  unfold recB
  rw [e1, ← e, List.getD_eq_getElem?_getD, show ((j : Nat) : Int).toNat = j from rfl, List.getElem?_eq_getElem hj']
  simp
/-- all rows from r on lie beyond the place -/
noncomputable def LowAt (st : St) (ab : Bytes) (ai : Int) (r : Bytes) : Prop := ∀ us, Sorted st 0 us → ∀ t ∈ us, (gtP t.b t.s ab ai = true ↔ ltL (recB st t).toList r.toList = false)
theorem next_some {st : St} {us : List TRow} {ab : Bytes} {ai : Int} {r : Bytes} (hs : Sorted st 0 us) (hr : r ∈ st.cs.map (·.1)) (lo : LowAt st ab ai r) : ¬ ∀ t ∈ us, gtP t.b t.s ab ai = false := fun h => by
  obtain ⟨t, ht, e⟩ := row_for hs hr
  have := (lo us hs t ht).mpr (by rw [e]; exact ltL_irrefl _)
  rw [h t ht] at this; cases this
theorem next_rec {st : St} {us : List TRow} {ab : Bytes} {ai : Int} {r : Bytes} {t : TRow} (hsub : (st.cs.map (·.1)).Sublist c0) (hs : Sorted st 0 us) (hr : r ∈ st.cs.map (·.1)) (lo : LowAt st ab ai r) (hf : firstGt us ab ai t) : recB st t = r := by
  obtain ⟨k, hk, hg, hlt⟩ := hf
  obtain ⟨t', ht', e⟩ := row_for hs hr
  obtain ⟨n, hn, en⟩ := List.mem_iff_getElem.mp ht'
  have hn' : us[n]? = some t' := by rw [List.getElem?_eq_getElem hn, en]
  have htm := List.mem_of_getElem? hk
  have g' : gtP t'.b t'.s ab ai = true := (lo us hs t' ht').mpr (by rw [e]; exact ltL_irrefl _)
  have g := (lo us hs t htm).mp hg
  obtain ⟨i, _, _, hi, ei, _⟩ := rec_of hs htm
  obtain ⟨i', _, _, hi', ei', _⟩ := rec_of hs ht'
  have hc := hsub.subset (List.mem_of_getElem? hi)
  have hc' := hsub.subset (List.mem_of_getElem? hi')
  rcases Nat.lt_trichotomy n k with h | h | h
  · rw [hlt n t' h hn'] at g'; cases g'
  · subst h
    rw [hk] at hn'
    rw [Option.some.inj hn']; exact e
  · obtain ⟨hk1, hk2⟩ := List.getElem?_eq_some_iff.mp hk
    have hkey := List.pairwise_iff_getElem.mp hs.2 k n hk1 hn h
    rw [hk2, en] at hkey
    unfold keyLt at hkey
    by_cases q : t.b = t'.b
    · rw [← e]
      exact worth_inj _ hc _ hc' (by rw [ei, ei', q])
    · rw [if_neg (by rw [toList_beq, decide_eq_true_iff]; exact q)] at hkey
      have := worth_lt _ hc _ hc' (by rw [ei, ei']; exact hkey)
      rw [e, g] at this; cases this
theorem low_zero {st : St} {r : Bytes} (hsub : (st.cs.map (·.1)).Sublist c0) (hmin : ∀ b ∈ st.cs.map (·.1), ltL b.toList r.toList = false) : LowAt st #[] (-1) r := fun us hs t ht => by
  obtain ⟨i, _, _, hi, ei, _⟩ := rec_of hs ht
  have hm := List.mem_of_getElem? hi
  obtain ⟨h1, h2⟩ := worth_pos _ (hsub.subset hm)
  rw [ei] at h1 h2
  unfold gtP
  rw [h1, h2, hmin _ hm]; simp
theorem low_next {st : St} {q r : Bytes} (hsub : (st.cs.map (·.1)).Sublist c0) (hq : q ∈ c0) (hmid : ∀ b ∈ st.cs.map (·.1), ltL q.toList b.toList = !ltL b.toList r.toList) : LowAt st (worthB 0 q ++ #[0]) (-1) r := fun us hs t ht => by
  obtain ⟨i, _, _, hi, ei, _⟩ := rec_of hs ht
  have hm := List.mem_of_getElem? hi
  obtain ⟨h1, h2⟩ := worth_cut _ hq _ (hsub.subset hm)
  rw [ei] at h1 h2
  unfold gtP
  rw [h1, if_neg (by decide), h2, hmid _ hm]
  cases ltL (recB st t).toList r.toList <;> decide
/-- in a sorted list: what lies beyond its item i is what does not lie ahead of its item i + 1 -/
theorem mid_of {Y : List Bytes} (hY : Y.Pairwise fun a b => ltL a.toList b.toList = true) {i : Nat} {q r b : Bytes} (hq : Y[i]? = some q) (hr : Y[i + 1]? = some r) (hb : b ∈ Y) : ltL q.toList b.toList = !ltL b.toList r.toList := by
  obtain ⟨j, hj, e⟩ := List.mem_iff_getElem.mp hb
  obtain ⟨i1, rfl⟩ := List.getElem?_eq_some_iff.mp hq
  obtain ⟨i2, rfl⟩ := List.getElem?_eq_some_iff.mp hr
  subst e
  have P := List.pairwise_iff_getElem.mp hY
  rcases Nat.lt_trichotomy j i with h | h | h
  · rw [P j (i + 1) hj i2 (by omega), ltL_asymm (P j i hj i1 h)]; rfl
  · subst h
    rw [P j (j + 1) hj i2 (by omega), ltL_irrefl]; rfl
  · rw [P i j i1 hj h]
    rcases Nat.lt_trichotomy j (i + 1) with h2 | h2 | h2
    · omega
    · subst h2; rw [ltL_irrefl]; rfl
    · rw [ltL_asymm (P (i + 1) j i2 hj h2)]; rfl
theorem min_of {Y : List Bytes} (hY : Y.Pairwise fun a b => ltL a.toList b.toList = true) {r b : Bytes} (hr : Y[0]? = some r) (hb : b ∈ Y) : ltL b.toList r.toList = false := by
  obtain ⟨j, hj, e⟩ := List.mem_iff_getElem.mp hb
  obtain ⟨i2, rfl⟩ := List.getElem?_eq_some_iff.mp hr
  subst e
  have P := List.pairwise_iff_getElem.mp hY
  rcases Nat.eq_zero_or_pos j with h | h
  · subst h; exact ltL_irrefl _
  · exact ltL_asymm (P 0 j i2 hj h)
/-- the rows, as records -/
theorem recs_perm {st : St} {us : List TRow} (hs : Sorted st 0 us) : (us.map (recB st)).Perm (st.cs.map (·.1)) := by
  have h := hs.1.map (fun k : Bytes × Int × Int => (st.cs.getD k.2.2.toNat default).1)
  rw [List.map_map, List.map_map] at h
  refine h.trans (List.Perm.of_eq ?_)
  refine List.ext_getElem (by simp) fun j h1 h2 => ?_
  have h2' : j < st.cs.length := by simpa using h2
  simp only [List.getElem_map, List.getElem_range, Function.comp]
  show (st.cs.getD ((j : Nat) : Int).toNat default).1 = _
  rw [show ((j : Nat) : Int).toNat = j from rfl, List.getD_eq_getElem?_getD, List.getElem?_eq_getElem h2']; rfl
theorem recs_sorted {st : St} {us : List TRow} (hsub : (st.cs.map (·.1)).Sublist c0) (hs : Sorted st 0 us) : (us.map (recB st)).Pairwise fun a b => ltL a.toList b.toList = true := by
  have nd : (us.map (recB st)).Nodup := (recs_perm hs).symm.nodup (hsub.nodup c0_nodup)
  refine List.pairwise_map.mpr ?_
  have nd := List.pairwise_map.mp nd
  refine List.pairwise_iff_getElem.mpr fun i j hi hj hij => ?_
  have h1 := List.pairwise_iff_getElem.mp nd i j hi hj hij
  have h2 := List.pairwise_iff_getElem.mp hs.2 i j hi hj hij
  obtain ⟨_, _, _, ei, e1, _⟩ := rec_of hs (List.getElem_mem hi)
  obtain ⟨_, _, _, ej, e2, _⟩ := rec_of hs (List.getElem_mem hj)
  have hc := hsub.subset (List.mem_of_getElem? ei)
  have hc' := hsub.subset (List.mem_of_getElem? ej)
  unfold keyLt at h2
  by_cases q : us[i].b = us[j].b
  · exact absurd (worth_inj _ hc _ hc' (by rw [e1, e2, q])) h1
  · rw [if_neg (by rw [toList_beq, decide_eq_true_iff]; exact q)] at h2
    exact worth_lt _ hc _ hc' (by rw [e1, e2]; exact h2)
/-- the place that start leaves -/
theorem low_start {st st' : St} {us : List TRow} {t : TRow} (hsub : (st.cs.map (·.1)).Sublist c0) (hs : Sorted st 0 us) (ht : us[0]? = some t) (hc : st'.cs = st.cs) (hr : st'.rows = st.rows) : LowAt st' t.b (t.s - 1) (recB st t) := fun us' hs' t' ht' => by
  have hs' : Sorted st 0 us' := by
    have : ∀ i, keyAt st' 0 i = keyAt st 0 i := fun i => by unfold keyAt; rw [hc, hr]
    refine ⟨?_, hs'.2⟩
    have h := hs'.1
    rw [hc, show keyAt st' 0 = keyAt st 0 from funext this] at h; exact h
  have er : recB st' t' = recB st t' := by unfold recB; rw [hc]
  rw [er]
  have htm := List.mem_of_getElem? ht
  obtain ⟨i, _, _, hi, ei, si⟩ := rec_of hs htm
  obtain ⟨i', _, _, hi', ei', si'⟩ := rec_of hs' ht'
  have hm := hsub.subset (List.mem_of_getElem? hi)
  have hm' := hsub.subset (List.mem_of_getElem? hi')
  have hmin := min_of (recs_sorted hsub hs) (r := recB st t) (b := recB st t') (by rw [List.getElem?_map, ht]; rfl) ((recs_perm hs).mem_iff.mpr (List.mem_of_getElem? hi'))
  rw [hmin]
  refine iff_of_true ?_ rfl
  unfold gtP
  by_cases q : t'.b = t.b
  · rw [if_pos (by rw [toList_beq, decide_eq_true_iff]; exact q)]
    have e : recB st t' = recB st t := worth_inj _ hm' _ hm (by rw [ei, ei', q])
    have nd := hsub.nodup c0_nodup
    have hii : i' = i := by
      rw [e] at hi'
      obtain ⟨l1, g1⟩ := List.getElem?_eq_some_iff.mp hi
      obtain ⟨l2, g2⟩ := List.getElem?_eq_some_iff.mp hi'
      exact (List.getElem_inj nd).mp (g2.trans g1.symm)
    rw [si', si, hii, decide_eq_true_iff]; omega
  · rw [if_neg (by rw [toList_beq, decide_eq_true_iff]; exact q)]
    rcases Bool.eq_false_or_eq_true (ltL t.b.toList t'.b.toList) with h | h
    · exact h
    · exfalso
      have h3 : ltL t'.b.toList t.b.toList = true := by rw [ltL_tri _ _ (fun z => q (Array.toList_inj.mp z)), h]; rfl
      have := worth_lt _ hm' _ hm (by rw [ei, ei']; exact h3)
      rw [hmin] at this; cases this
/-- what read_next tells where the place is known -/
theorem rn_here {I : Ids} {st : St} {atv : Value} {ab : Bytes} {ai : Int} {h : Heap} {v : Value} {st' : St} {atv' : Value} {h' : Heap} {r : Bytes} (hsub : (st.cs.map (·.1)).Sublist c0) (hr : r ∈ st.cs.map (·.1)) (lo : LowAt st ab ai r) (hw : st.which = 0) (hn : st.nowhere = false)
    (po : (st.nowhere = true ∧ Tup h h' v (Str.ofString "46") #[] ∧ st' = { st with last := -1 } ∧ atv' = atv) ∨ (st.nowhere = false ∧ ∃ us, Sorted st st.which us ∧ ((∃ t i, firstGt us ab ai t ∧ i < st.cs.length ∧ t.p = ((i : Nat) : Int) ∧ Tup h h' v (statOf st st.which t.b t.s) (st.cs.getD i default).1 ∧ st' = { st with nowhere := false, last := (firsts st).getD i 0 } ∧ AtN h (hideAll h' I.adr) atv' (if st.which > 0 then t.b else t.b ++ #[0]) (if st.which > 0 then t.s else -1)) ∨ ((∀ t ∈ us, gtP t.b t.s ab ai = false) ∧ Tup h h' v (Str.ofString "10") #[] ∧ st' = { st with nowhere := true, last := -1 } ∧ atv' = atv)))) :
    ∃ i, i < st.cs.length ∧ (st.cs.map (·.1))[i]? = some r ∧ Tup h h' v (Str.ofString "00") r ∧ st' = { st with nowhere := false, last := (firsts st).getD i 0 } ∧ AtN h (hideAll h' I.adr) atv' (worthB 0 r ++ #[0]) (-1) := by
  rcases po with ⟨q, _⟩ | ⟨_, us, hs, ⟨t, i, hf, hi, hp, T, e, A⟩ | ⟨q, _⟩⟩
  · rw [hn] at q; cases q
  · rw [hw] at hs T A
    have er := next_rec hsub hs hr lo hf
    obtain ⟨k, hk, _⟩ := id hf
    obtain ⟨i', hp', hi', hg, ew, _⟩ := rec_of hs (List.mem_of_getElem? hk)
    have : i' = i := by rw [hp] at hp'; exact (Int.ofNat.inj hp').symm
    subst this
    rw [er] at hg ew
    have ec : (st.cs.getD i' default).1 = r := by rw [← er]; unfold recB; rw [hp]; rfl
    rw [statOf0, ec] at T
    rw [if_neg (by decide), if_neg (by decide), ← ew] at A
    exact ⟨i', hi, hg, T, e, A⟩
  · rw [hw] at hs
    exact absurd q (next_some hs hr lo)
theorem rn_sub {I : Ids} {st : St} {atv : Value} {ab : Bytes} {ai : Int} {h : Heap} {v : Value} {st' : St} {atv' : Value} {h' : Heap}
    (po : (st.nowhere = true ∧ Tup h h' v (Str.ofString "46") #[] ∧ st' = { st with last := -1 } ∧ atv' = atv) ∨ (st.nowhere = false ∧ ∃ us, Sorted st st.which us ∧ ((∃ t i, firstGt us ab ai t ∧ i < st.cs.length ∧ t.p = ((i : Nat) : Int) ∧ Tup h h' v (statOf st st.which t.b t.s) (st.cs.getD i default).1 ∧ st' = { st with nowhere := false, last := (firsts st).getD i 0 } ∧ AtN h (hideAll h' I.adr) atv' (if st.which > 0 then t.b else t.b ++ #[0]) (if st.which > 0 then t.s else -1)) ∨ ((∀ t ∈ us, gtP t.b t.s ab ai = false) ∧ Tup h h' v (Str.ofString "10") #[] ∧ st' = { st with nowhere := true, last := -1 } ∧ atv' = atv)))) : ∀ r ∈ st'.rows, r ∈ st.rows := by
  rcases po with ⟨_, _, rfl, _⟩ | ⟨_, us, _, ⟨t, i, _, _, _, _, rfl, _⟩ | ⟨_, _, rfl, _⟩⟩ <;> exact fun r hr => hr
theorem st_sub {I : Ids} {st : St} {atv : Value} {wh : Int} {v : Value} {st' : St} {atv' : Value} {h' : Heap} (po : ∃ us, Sorted st wh us ∧ ((∃ t, us[0]? = some t ∧ (∃ t', v = .str (Str.ofString "00") t') ∧ st' = { st with which := wh, nowhere := false, last := -1 } ∧ AtIs (hideAll h' I.adr) atv' t.b (t.s - 1)) ∨ (us = [] ∧ (∃ t', v = .str (Str.ofString "23") t') ∧ st' = { st with nowhere := true, last := -1 } ∧ atv' = atv))) : ∀ r ∈ st'.rows, r ∈ st.rows := by
  obtain ⟨us, _, ⟨t, _, _, rfl, _⟩ | ⟨_, _, rfl, _⟩⟩ := po <;> exact fun r hr => hr

theorem w_LZ : True := by
  k_with_none
  (k_with "eval Name" => (k_here; k_dflt (refine' nameX_L (by k_asm) (by rfl) ?_ (by rfl) (by rfl); k_whole)))
  (k_with "cj" => (first | assumption | exact And.left (by assumption) | exact And.left (And.right (by assumption)) | exact And.right (by assumption) | exact And.left (And.right (And.right (by assumption))) | exact And.right (And.right (by assumption)) | exact And.left (And.right (And.right (And.right (by assumption)))) | exact And.right (And.right (And.right (by assumption))) | exact And.left (And.right (And.right (And.right (And.right (by assumption))))) | exact And.right (And.right (And.right (And.right (by assumption)))) | exact And.left (And.right (And.right (And.right (And.right (And.right (by assumption)))))) | exact And.right (And.right (And.right (And.right (And.right (by assumption))))) | exact And.left (And.right (And.right (And.right (And.right (And.right (And.right (by assumption))))))) | exact And.right (And.right (And.right (And.right (And.right (And.right (by assumption)))))) | exact And.left (And.right (And.right (And.right (And.right (And.right (And.right (And.right (by assumption)))))))) | exact And.right (And.right (And.right (And.right (And.right (And.right (And.right (by assumption))))))) | exact And.left (And.right (And.right (And.right (And.right (And.right (And.right (And.right (And.right (by assumption))))))))) | exact And.right (And.right (And.right (And.right (And.right (And.right (And.right (And.right (by assumption)))))))) | exact And.left (And.right (And.right (And.right (And.right (And.right (And.right (And.right (And.right (And.right (by assumption)))))))))) | exact And.right (And.right (And.right (And.right (And.right (And.right (And.right (And.right (And.right (by assumption))))))))) | exact And.left (And.right (And.right (And.right (And.right (And.right (And.right (And.right (And.right (And.right (And.right (by assumption))))))))))) | exact And.right (And.right (And.right (And.right (And.right (And.right (And.right (And.right (And.right (And.right (by assumption)))))))))) | exact And.left (And.right (And.right (And.right (And.right (And.right (And.right (And.right (And.right (And.right (And.right (And.right (by assumption)))))))))))) | exact And.right (And.right (And.right (And.right (And.right (And.right (And.right (And.right (And.right (And.right (And.right (by assumption))))))))))) | exact And.left (And.right (And.right (And.right (And.right (And.right (And.right (And.right (And.right (And.right (And.right (And.right (And.right (by assumption))))))))))))) | exact And.right (And.right (And.right (And.right (And.right (And.right (And.right (And.right (And.right (And.right (And.right (And.right (by assumption)))))))))))) | exact And.left (And.right (And.right (And.right (And.right (And.right (And.right (And.right (And.right (And.right (And.right (And.right (And.right (And.right (by assumption)))))))))))))) | exact And.right (And.right (And.right (And.right (And.right (And.right (And.right (And.right (And.right (And.right (And.right (And.right (And.right (by assumption)))))))))))))))
  (k_with "cj2" => (first | k_extra "cj" | exact Nat.lt_succ_of_lt (by k_extra "cj") | exact Nat.lt_succ_of_lt (Nat.lt_succ_of_lt (by k_extra "cj")) | exact Nat.lt_succ_self _))
  (k_with "om" => (first | (with_reducible assumption) | (with_reducible exact Nat.ne_of_gt (by k_extra "cj")) | (with_reducible exact Nat.ne_of_lt (by k_extra "cj")) | (with_reducible k_extra "cj2") | (with_reducible exact Nat.ne_of_lt (by k_extra "cj2")) | (with_reducible exact Nat.ne_of_gt (by k_extra "cj2")) | (with_reducible exact Ne.symm (by k_extra "cj")) | omega))
  (k_with "k_ne" => (refine neN ?_; (try dsimp only); k_extra "om"))
  trivial
open PyProof.Rows.LCg (Off3)
/-- the invariant of the list of reads -/
noncomputable def ReadJ (w : World) (J : Ids) (X : List (Addr × Obj)) (f1 f2 f3 f4 f5 f6 : Addr × Obj) (cf : List (Bytes × Tok)) (rows : List Row) (Y : List Bytes) (h₀ : Heap) (i : Nat) (ys : List Value) (nx : List (Addr × Obj)) : Prop :=
  ∃ (qs : List (Bytes × Tok)) (p : Addr × Obj) (st : St) (atv : Value) (tk : Nat → Tok) (tm ta tn tw tl : Tok) (hi : Value) (nc ns : Nat),
    ys = qs.map rv ∧ qs.map (·.1) = Y.take i ∧ nx = p :: f1 :: f2 :: f3 :: f4 :: f5 :: f6 :: led4T w J st tk tm ta tn tw tl atv hi nc ns X ∧ Own J st X ∧ st.cs = cf ∧ st.rows = rows ∧ p.1 ∉ J.adr ∧
      ∀ r, Y[i]? = some r → st.which = 0 ∧ st.nowhere = false ∧ ∃ ab ai, AtW h₀ J.adr p atv ab ai ∧ LowAt st ab ai r
theorem off3_of {I C D : Addr} : ∀ {l : List (Addr × Obj)}, (∀ p ∈ l, p.1 ≠ I ∧ p.1 ≠ C ∧ p.1 ≠ D) → Off3 I C D l
  | [], _ => True.intro
  | _ :: _, h => ⟨h _ (.head _), off3_of fun p hp => h p (.tail _ hp)⟩
theorem off3_next {I C D : Addr} {p p' : Addr × Obj} {R R' : List (Addr × Obj)} (h : Off3 I C D (p :: R)) (e : R'.map (·.1) = R.map (·.1)) (hp : p'.1 ≠ I ∧ p'.1 ≠ C ∧ p'.1 ≠ D) : Off3 I C D (p' :: R') := off3_of fun q hq => by
  rcases List.mem_cons.mp hq with rfl | hq
  · exact hp
  have : q.1 ∈ R.map (·.1) := by rw [← e]; exact List.mem_map_of_mem (f := (·.1)) hq
  obtain ⟨q2, hq2, e2⟩ := List.mem_map.mp this
  rw [← e2]; exact h.mem q2 (.tail _ hq2)
theorem off_new {h₀ g : Heap} {L I C D : Addr} {oI oC oD : Obj} {p' d : Addr × Obj} {nx : List (Addr × Obj)} (N : News h₀ L g ((I, oI) :: (C, oC) :: (D, oD) :: nx)) (off : Off3 I C D nx) (hd : d ∈ nx) (hp : p' = d ∨ g.get? p'.1 = none) : p'.1 ≠ I ∧ p'.1 ≠ C ∧ p'.1 ≠ D := by
  rcases hp with rfl | hp
  · exact off.mem _ hd
  · refine ⟨fun e => ?_, fun e => ?_, fun e => ?_⟩
    · have h1 := (N _ (.head _)).1
      rw [e] at hp; exact absurd (hp.symm.trans h1) (by simp)
    · have h1 := (N _ (.tail _ (.head _))).1
      rw [e] at hp; exact absurd (hp.symm.trans h1) (by simp)
    · have h1 := (N _ (.tail _ (.tail _ (.head _)))).1
      rw [e] at hp; exact absurd (hp.symm.trans h1) (by simp)
theorem read_pick {g h : Heap} {L : Addr} {p' r i c d p : Addr × Obj} {R : List (Addr × Obj)} (N : News g L h (p' :: r :: i :: c :: d :: p :: R)) : News g L h (i :: c :: d :: p' :: R) := fun q hq => by
  rcases List.mem_cons.mp hq with rfl | hq
  · exact N _ (.tail _ (.tail _ (.head _)))
  rcases List.mem_cons.mp hq with rfl | hq
  · exact N _ (.tail _ (.tail _ (.tail _ (.head _))))
  rcases List.mem_cons.mp hq with rfl | hq
  · exact N _ (.tail _ (.tail _ (.tail _ (.tail _ (.head _)))))
  rcases List.mem_cons.mp hq with rfl | hq
  · exact N _ (.head _)
  · exact N _ (.tail _ (.tail _ (.tail _ (.tail _ (.tail _ (.tail _ hq))))))
theorem start_led {J : Ids} {st : St} {atv : Value} {us : List TRow} {v : Value} {st' : St} {atv' : Value} {h₀ h' : Heap} {L : Addr} {m : Str → Option Value} {nx : List (Addr × Obj)} {d : Addr × Obj} (F : Fr h₀ L h' m) (N : News h₀ L h' nx) (hd : d ∈ nx) (hda : d.1 ∉ J.adr) (hsub : (st.cs.map (·.1)).Sublist c0) (sus : Sorted st 0 us)
    (po : (∃ t, us[0]? = some t ∧ (∃ t', v = .str (Str.ofString "00") t') ∧ st' = { st with which := 0, nowhere := false, last := -1 } ∧ AtIs (hideAll h' J.adr) atv' t.b (t.s - 1)) ∨ (us = [] ∧ (∃ t', v = .str (Str.ofString "23") t') ∧ st' = { st with nowhere := true, last := -1 } ∧ atv' = atv)) :
    (∃ x t, v = .str x t) ∧ st'.cs = st.cs ∧ st'.rows = st.rows ∧ ∃ p, News h₀ L h' (p :: nx) ∧ p.1 ∉ J.adr ∧ ∀ r, (us.map (recB st))[0]? = some r → st'.which = 0 ∧ st'.nowhere = false ∧ ∃ ab ai, AtW h₀ J.adr p atv' ab ai ∧ LowAt st' ab ai r := by
  rcases po with ⟨t, ht, ⟨t', rfl⟩, rfl, A⟩ | ⟨rfl, ⟨t', rfl⟩, rfl, _⟩
  · obtain ⟨p, N', W⟩ := at_led F N hd hda A
    refine ⟨⟨_, _, rfl⟩, rfl, rfl, p, N', W.1, fun r hr => ⟨rfl, rfl, _, _, W, ?_⟩⟩
    rw [List.getElem?_map, ht] at hr
    cases hr
    exact low_start hsub sus ht rfl rfl
  · refine ⟨⟨_, _, rfl⟩, rfl, rfl, d, fun q hq => ?_, hda, fun r hr => by cases hr⟩
    rcases List.mem_cons.mp hq with rfl | hq
    · exact N _ hd
    · exact N _ hq
/-- the invariant, one turn on -/
theorem low_turn {st : St} {Y : List Bytes} {i : Nat} {q r : Bytes} (hsub : (st.cs.map (·.1)).Sublist c0) (hY : Y.Pairwise fun a b => ltL a.toList b.toList = true) (hm : ∀ b ∈ st.cs.map (·.1), b ∈ Y) (hq : Y[i]? = some q) (hqc : q ∈ c0) (hr : Y[i + 1]? = some r) : LowAt st (worthB 0 q ++ #[0]) (-1) r :=
  low_next hsub hqc fun b hb => mid_of hY hq hr (hm b hb)
theorem take_next {Y : List Bytes} {i : Nat} {r : Bytes} {qs : List (Bytes × Tok)} {t : Tok} (h : qs.map (·.1) = Y.take i) (hr : Y[i]? = some r) : (qs ++ [(r, t)]).map (·.1) = Y.take (i + 1) := by
  rw [List.map_append, h, List.take_add_one, hr]; rfl
/-- a mark: the next call is of a method -/
structure CallM0 : Prop where
theorem end_raises {ds : List WData} : ∀ ct ∈ PySem.Challenge.rw_pb0243_02.row.raises, WTm.holds PySem.Challenge.rw_pb0243_02.row.records ct.2 { args := ds } = false := by wrow_none_raised
theorem end_post (xs : List Int) : PySem.Challenge.rw_pb0243_02.row.claim.post [ofPy (PyData.list (xs.map PyData.int))] (WData.bool true) [ofPy (PyData.list (xs.map PyData.int))] = true := by wrow_post
/-- a mark: the walk halts at == of two objects -/
structure StopEq : Prop where
theorem hold_eq {P : Prop} (_ : StopEq) (h : Hold P) : P := h
theorem c0_size {cs : List (Bytes × Tok)} (h : cs.map (·.1) = c0) : ∀ r ∈ cs, r.1.size ≤ 1000 := fun r hr => c0_sizes _ (by rw [← h]; exact List.mem_map_of_mem (f := (·.1)) hr)
theorem m_pick3s {prog : Program} {w : World} {A : Around} {E : Value → Shared → Prop} {s : Shared} {h₀ : Heap} {L : Addr} {news : List (Addr × Obj)} {l : Addr} {a b c : Str} {ta tb tc : Tok} {n : Nat} {value slice : PySem.Expr} {k : Int} {u : Tok} {Q : Value → Shared → Prop} (N : News h₀ L s.heap news) (hm : (l, listOf #[.str a ta, .str b tb, .str c tc] n) ∈ news)
    (h : ∀ x t, x = a ∨ x = b ∨ x = c → Q (.str x t) s)
    (hs : subscripted slice false (.ref l) (.int (k.fmod 3) u) = operate [.ref l, .int (k.fmod 3) u] (getItem (.ref l) (.int (k.fmod 3) u)) := by with_unfolding_all rfl) :
    wpAny (model prog w) A (subscriptTail value slice (.ref l) (.int (k.fmod 3) u)) Q E s :=
  m_pick3 N hm (Int.fmod_nonneg_of_pos _ (by decide)) (Int.fmod_lt_of_pos _ (by decide)) (fun v hv => by
    rcases hv with rfl | rfl | rfl
    · exact h _ _ (.inl rfl)
    · exact h _ _ (.inr (.inl rfl))
    · exact h _ _ (.inr (.inr rfl))) hs
theorem m_snd {prog : Program} {w : World} {A : Around} {E : Value → Shared → Prop} {s : Shared} {g : Heap} {L : Addr} {news : List (Addr × Obj)} {D : Addr} {x : Str} {b : Bytes} {t1 t2 u : Tok} {value slice : PySem.Expr} {Q : Value → Shared → Prop} (N : News g L s.heap news) (hm : (D, tupOf [.str x t1, .bytes b t2]) ∈ news) (h : Q (.bytes b t2) s)
    (hs : subscripted slice false (.ref D) (.int 1 u) = operate [.ref D, .int 1 u] (getItem (.ref D) (.int 1 u)) := by with_unfolding_all rfl) :
    wpAny (model prog w) A (subscriptTail value slice (.ref D) (.int 1 u)) Q E s :=
  item_tupleT (j := 1) (x := .bytes b t2) (isTupOf (N _ hm).1) (by decide) (by decide) (by unfold seqIndex?; simp) (by simp) h hs

theorem w_LQ : True := by
  k_with_none
  (k_with "eval Name" => (k_here; k_dflt (refine' nameX_L (by k_asm) (by rfl) ?_ (by rfl) (by rfl); k_whole)))
  (k_with "cj" => (first | assumption | exact And.left (by assumption) | exact And.left (And.right (by assumption)) | exact And.right (by assumption) | exact And.left (And.right (And.right (by assumption))) | exact And.right (And.right (by assumption)) | exact And.left (And.right (And.right (And.right (by assumption)))) | exact And.right (And.right (And.right (by assumption))) | exact And.left (And.right (And.right (And.right (And.right (by assumption))))) | exact And.right (And.right (And.right (And.right (by assumption)))) | exact And.left (And.right (And.right (And.right (And.right (And.right (by assumption)))))) | exact And.right (And.right (And.right (And.right (And.right (by assumption))))) | exact And.left (And.right (And.right (And.right (And.right (And.right (And.right (by assumption))))))) | exact And.right (And.right (And.right (And.right (And.right (And.right (by assumption)))))) | exact And.left (And.right (And.right (And.right (And.right (And.right (And.right (And.right (by assumption)))))))) | exact And.right (And.right (And.right (And.right (And.right (And.right (And.right (by assumption))))))) | exact And.left (And.right (And.right (And.right (And.right (And.right (And.right (And.right (And.right (by assumption))))))))) | exact And.right (And.right (And.right (And.right (And.right (And.right (And.right (And.right (by assumption)))))))) | exact And.left (And.right (And.right (And.right (And.right (And.right (And.right (And.right (And.right (And.right (by assumption)))))))))) | exact And.right (And.right (And.right (And.right (And.right (And.right (And.right (And.right (And.right (by assumption))))))))) | exact And.left (And.right (And.right (And.right (And.right (And.right (And.right (And.right (And.right (And.right (And.right (by assumption))))))))))) | exact And.right (And.right (And.right (And.right (And.right (And.right (And.right (And.right (And.right (And.right (by assumption)))))))))) | exact And.left (And.right (And.right (And.right (And.right (And.right (And.right (And.right (And.right (And.right (And.right (And.right (by assumption)))))))))))) | exact And.right (And.right (And.right (And.right (And.right (And.right (And.right (And.right (And.right (And.right (And.right (by assumption))))))))))) | exact And.left (And.right (And.right (And.right (And.right (And.right (And.right (And.right (And.right (And.right (And.right (And.right (And.right (by assumption))))))))))))) | exact And.right (And.right (And.right (And.right (And.right (And.right (And.right (And.right (And.right (And.right (And.right (And.right (by assumption)))))))))))) | exact And.left (And.right (And.right (And.right (And.right (And.right (And.right (And.right (And.right (And.right (And.right (And.right (And.right (And.right (by assumption)))))))))))))) | exact And.right (And.right (And.right (And.right (And.right (And.right (And.right (And.right (And.right (And.right (And.right (And.right (And.right (by assumption)))))))))))))))
  (k_with "cj2" => (first | k_extra "cj" | exact Nat.lt_succ_of_lt (by k_extra "cj") | exact Nat.lt_succ_of_lt (Nat.lt_succ_of_lt (by k_extra "cj")) | exact Nat.lt_succ_self _))
  (k_with "om" => (first | (with_reducible assumption) | (with_reducible exact Nat.ne_of_gt (by k_extra "cj")) | (with_reducible exact Nat.ne_of_lt (by k_extra "cj")) | (with_reducible k_extra "cj2") | (with_reducible exact Nat.ne_of_lt (by k_extra "cj2")) | (with_reducible exact Nat.ne_of_gt (by k_extra "cj2")) | (with_reducible exact Ne.symm (by k_extra "cj")) | omega))
  (k_with "k_ne" => (refine neN ?_; (try dsimp only); k_extra "om"))
  trivial
abbrev NeA.fst {a b : Addr} (_ : NeA a b) : Addr := a
theorem AtX.w {h₀ : Heap} {I : Ids} {X : List (Addr × Obj)} {atv : Value} {b : Bytes} {i : Int} (A : AtX I X atv b i) : ∃ p, p ∈ X ∧ AtW h₀ I.adr p atv b i := by
  obtain ⟨tA, t1, t2, rfl, hA, hm⟩ := A
  exact ⟨_, hm, hA, tA, t1, t2, rfl, hA, .inl rfl⟩
/-- the stamps are apart and none is below zero -/
structure RowsOk (st : St) : Prop where
  nd : (firsts st).Nodup
  pos : ∀ x ∈ firsts st, 0 ≤ x
  len : st.rows.length = st.cs.length
theorem RowsOk.made {st : St} (h : st.rows.map (·.v) = (List.range st.cs.length).map fun (i : Nat) => [(i : Int), (i : Int)]) : RowsOk st := by
  have e : firsts st = (List.range st.cs.length).map fun (i : Nat) => (i : Int) := by
    unfold firsts
    have := congrArg (List.map fun v : List Int => v.getD 0 0) h
    rw [List.map_map, List.map_map] at this
    exact this
  refine ⟨?_, ?_, ?_⟩
  · rw [e]
    refine List.pairwise_map.mpr (List.Pairwise.imp (fun h1 h2 => h1 (Int.ofNat.inj h2)) List.nodup_range)
  · rw [e]
    intro x hx
    obtain ⟨k, _, rfl⟩ := List.mem_map.mp hx
    omega
  · have := congrArg List.length h
    simpa using this
theorem RowsOk.same {st st' : St} (h : RowsOk st) (hc : st'.cs = st.cs) (hr : st'.rows = st.rows) : RowsOk st' := by
  have e : firsts st' = firsts st := by unfold firsts; rw [hr]
  exact ⟨by rw [e]; exact h.nd, by rw [e]; exact h.pos, by rw [hr, hc]; exact h.len⟩
theorem firsts_erase {st st' : St} {i : Nat} (hr : st'.rows = st.rows.eraseIdx i) : firsts st' = (firsts st).eraseIdx i := by
  unfold firsts
  rw [hr, List.eraseIdx_eq_take_drop_succ, List.eraseIdx_eq_take_drop_succ, List.map_append, List.map_take, List.map_drop]
theorem RowsOk.erase {st st' : St} {i : Nat} (h : RowsOk st) (hc : st'.cs = st.cs.eraseIdx i) (hr : st'.rows = st.rows.eraseIdx i) : RowsOk st' := by
  have e := firsts_erase hr
  refine ⟨by rw [e]; exact (List.eraseIdx_sublist _ _).nodup h.nd, by rw [e]; exact fun x hx => h.pos x (List.mem_of_mem_eraseIdx hx), ?_⟩
  rw [hc, hr, List.length_eraseIdx, List.length_eraseIdx, h.len]
theorem last_is {st : St} (h : RowsOk st) {i : Nat} (hi : i < st.cs.length) (hl : st.last = (firsts st).getD i 0) : lastPlace st = (i : Int) := by
  have hi2 : i < (firsts st).length := by unfold firsts; rw [List.length_map, h.len]; exact hi
  have e : st.last = (firsts st)[i] := by rw [hl, List.getD_eq_getElem?_getD, List.getElem?_eq_getElem hi2]; rfl
  unfold lastPlace
  rw [if_pos (by rw [e]; exact List.getElem_mem hi2), e, h.nd.idxOf_getElem]
theorem last_none {st : St} (h : RowsOk st) (hl : st.last = -1) : lastPlace st = -1 := by
  unfold lastPlace
  exact if_neg fun q => by have := h.pos _ q; omega
theorem mem_erase_of_ne {l : List Bytes} {i : Nat} {r b : Bytes} (hr : l[i]? = some r) (hb : b ∈ l) (hne : b ≠ r) : b ∈ l.eraseIdx i := by
  obtain ⟨j, hj, e⟩ := List.mem_iff_getElem.mp hb
  refine List.mem_eraseIdx_iff_getElem?.mpr ⟨j, fun q => ?_, by rw [List.getElem?_eq_getElem hj, e]⟩
  subst q
  rw [List.getElem?_eq_getElem hj, e] at hr
  exact hne (Option.some.inj hr)
/-- what is still to come stays in the content -/
theorem rest_in {Y B : List Bytes} (hY : Y.Pairwise fun a b => ltL a.toList b.toList = true) {i k : Nat} {r : Bytes} (hr : Y[i]? = some r) (hk : B[k]? = some r) (h : ∀ b ∈ Y.drop i, b ∈ B) : ∀ b ∈ Y.drop (i + 1), b ∈ B.eraseIdx k := fun b hb => by
  have hb2 : b ∈ Y.drop i := by
    rw [← List.drop_drop] at hb
    exact List.mem_of_mem_drop hb
  refine mem_erase_of_ne hk (h b hb2) fun e => ?_
  subst e
  obtain ⟨j, hj, e⟩ := List.mem_iff_getElem.mp hb
  rw [List.getElem_drop] at e
  have hj2 : i + 1 + j < Y.length := by rw [List.length_drop] at hj; omega
  obtain ⟨hi, e2⟩ := List.getElem?_eq_some_iff.mp hr
  have := List.pairwise_iff_getElem.mp hY i (i + 1 + j) hi hj2 (by omega)
  rw [e, e2, ltL_irrefl] at this; cases this
theorem drop_next {Y B : List Bytes} {i : Nat} (h : ∀ b ∈ Y.drop i, b ∈ B) : ∀ b ∈ Y.drop (i + 1), b ∈ B := fun b hb => h b (by
    rw [← List.drop_drop] at hb
    exact List.mem_of_mem_drop hb)
theorem at_drop {Y B : List Bytes} {i : Nat} {r : Bytes} (hr : Y[i]? = some r) (h : ∀ b ∈ Y.drop i, b ∈ B) : r ∈ B := h r (List.mem_of_getElem? (i := 0) (by rw [List.getElem?_drop]; exact hr))
theorem only_at {B : List Bytes} (hs : B.Sublist c0) {k : Nat} {r : Bytes} (hk : B[k]? = some r) : ∀ j, @LT.lt Nat _ j k → B[j]? ≠ some r := fun j hj e => by
  obtain ⟨l1, e1⟩ := List.getElem?_eq_some_iff.mp hk
  obtain ⟨l2, e2⟩ := List.getElem?_eq_some_iff.mp e
  have := (List.getElem_inj (hs.nodup c0_nodup)).mp (e2.trans e1.symm)
  omega
theorem m_norm4 {m : Str → Option Value} {a b c d : Value} (h1 : m (Str.ofString "left") = some a) (h2 : m (Str.ofString "content") = some b) (h3 : m (Str.ofString "made") = some c) (h4 : m (Str.ofString "cells") = some d) :
    m = fun z => if z = Str.ofString "left" then some a else if z = Str.ofString "content" then some b else if z = Str.ofString "made" then some c else if z = Str.ofString "cells" then some d else m z := by
  funext z
  by_cases e1 : z = Str.ofString "left"
  · rw [if_pos e1, e1, h1]
  rw [if_neg e1]
  by_cases e2 : z = Str.ofString "content"
  · rw [if_pos e2, e2, h2]
  rw [if_neg e2]
  by_cases e3 : z = Str.ofString "made"
  · rw [if_pos e3, e3, h3]
  rw [if_neg e3]
  by_cases e4 : z = Str.ofString "cells"
  · rw [if_pos e4, e4, h4]
  rw [if_neg e4]
/-- the invariant of the loop in order -/
noncomputable def SeqJ (w : World) (I : Ids) (X : List (Addr × Obj)) (D3 D0 c5 c4 c3 c2 c1 lA : Addr) (lo3 lo0 : Obj) (Y : List Bytes) (h₀ : Heap) (i : Nat) (m : Str → Option Value) (nx : List (Addr × Obj)) : Prop :=
  ∃ (ls : List (Bytes × Tok)) (p : Addr × Obj) (cl : Nat) (u : Str → Option Value) (v : Vol) (c : Cel),
    m = (fun z => if z = Str.ofString "left" then some (.ref lA) else if z = Str.ofString "content" then some (.ref I.cA) else if z = Str.ofString "made" then some (.ref I.x) else if z = Str.ofString "cells" then some (.ref D0) else u z) ∧
    nx = p :: (D3, lo3) :: (lA, listOf (ls.map rv).toArray cl) :: (D0, lo0) :: (c5, c.w5) :: (c4, c.w4) :: (c3, c.w3) :: (c2, c.w2) :: (c1, c.w1) :: led4T w I v.st v.tk v.tm v.ta v.tn v.tw v.tl v.atv v.hi v.nc v.ns X ∧
    (c.w5.data = Data.cell c.x5 ∧ c.w4.data = Data.cell c.x4 ∧ c.w3.data = Data.cell c.x3 ∧ c.w2.data = Data.cell c.x2 ∧ c.w1.data = Data.cell c.x1) ∧ Own I v.st X ∧ ls.map (·.1) = v.st.cs.map (·.1) ∧ (ls.map (·.1)).Sublist c0 ∧
    p.1 ∉ I.adr ∧ @Ne Nat p.1 lA ∧ v.st.which = 0 ∧ v.st.nowhere = false ∧ RowsOk v.st ∧ (∀ b ∈ Y.drop i, b ∈ v.st.cs.map (·.1)) ∧ (∀ b ∈ v.st.cs.map (·.1), b ∈ Y) ∧ ∀ r, Y[i]? = some r → ∃ ab ai, AtW h₀ I.adr p v.atv ab ai ∧ LowAt v.st ab ai r
theorem SeqJ.mem {w : World} {I : Ids} {X : List (Addr × Obj)} {D3 D0 c5 c4 c3 c2 c1 lA : Addr} {lo3 lo0 : Obj} {Y : List Bytes} {h₀ : Heap} {i : Nat} {m : Str → Option Value} {nx : List (Addr × Obj)} (h : SeqJ w I X D3 D0 c5 c4 c3 c2 c1 lA lo3 lo0 Y h₀ i m nx) : (D3, lo3) ∈ nx := by
  obtain ⟨ls, p, cl, u, v, c, _, rfl, _⟩ := h
  exact .tail _ (.head _)
theorem seq_pick {g h : Heap} {L : Addr} {p3 r i p : Addr × Obj} {R : List (Addr × Obj)} (N : News g L h (p3 :: r :: i :: p :: R)) : News g L h (r :: i :: p3 :: R) := fun q hq => by
  rcases List.mem_cons.mp hq with rfl | hq
  · exact N _ (.tail _ (.head _))
  rcases List.mem_cons.mp hq with rfl | hq
  · exact N _ (.tail _ (.tail _ (.head _)))
  rcases List.mem_cons.mp hq with rfl | hq
  · exact N _ (.head _)
  · exact N _ (.tail _ (.tail _ (.tail _ (.tail _ hq))))
theorem ne_new {g h : Heap} {L a : Addr} {p d : Addr × Obj} {o : Obj} {nx : List (Addr × Obj)} (N : News g L h nx) (ha : (a, o) ∈ nx) (hd : @Ne Nat d.1 a) (hp : p = d ∨ h.get? p.1 = none) : @Ne Nat p.1 a := by
  rcases hp with rfl | hp
  · exact hd
  · intro e
    have h1 := (N _ ha).1
    have e : p.1 = a := e
    rw [e] at hp; exact absurd (hp.symm.trans h1) (by simp)
theorem upd_left {I : Ids} {X : List (Addr × Obj)} {lA D0 c5 c4 c3 c2 c1 : Addr} {o o' o0 o5 o4 o3 o2 o1 ox od oc os : Obj} {p1 p2 p3 : Addr × Obj} (h1 : NeA p1.1 lA) (h2 : NeA p2.1 lA) (h3 : NeA p3.1 lA) (h0 : NeA lA D0) (h5 : NeA lA c5) (h4 : NeA lA c4) (h33 : NeA lA c3) (h22 : NeA lA c2) (h11 : NeA lA c1) (hx : NeA lA I.x) (hd : NeA lA I.dx) (hc : NeA lA I.cA) (hs : NeA lA I.sA) (hX : ∀ p ∈ X, @Ne Nat p.1 lA) :
    Upd lA o o' (p1 :: p2 :: p3 :: (lA, o) :: (D0, o0) :: (c5, o5) :: (c4, o4) :: (c3, o3) :: (c2, o2) :: (c1, o1) :: (I.x, ox) :: (I.dx, od) :: (I.cA, oc) :: (I.sA, os) :: X) (p1 :: p2 :: p3 :: (lA, o') :: (D0, o0) :: (c5, o5) :: (c4, o4) :: (c3, o3) :: (c2, o2) :: (c1, o1) :: (I.x, ox) :: (I.dx, od) :: (I.cA, oc) :: (I.sA, os) :: X) := by
  refine .tail h1.ne (.tail h2.ne (.tail h3.ne (.head fun p hp => ?_)))
  have sy : ∀ {a b : Addr}, NeA a b → @Ne Nat b a := fun h e => h.ne e.symm
  rcases List.mem_cons.mp hp with rfl | hp
  · exact sy h0
  rcases List.mem_cons.mp hp with rfl | hp
  · exact sy h5
  rcases List.mem_cons.mp hp with rfl | hp
  · exact sy h4
  rcases List.mem_cons.mp hp with rfl | hp
  · exact sy h33
  rcases List.mem_cons.mp hp with rfl | hp
  · exact sy h22
  rcases List.mem_cons.mp hp with rfl | hp
  · exact sy h11
  rcases List.mem_cons.mp hp with rfl | hp
  · exact sy hx
  rcases List.mem_cons.mp hp with rfl | hp
  · exact sy hd
  rcases List.mem_cons.mp hp with rfl | hp
  · exact sy hc
  rcases List.mem_cons.mp hp with rfl | hp
  · exact sy hs
  · exact hX p hp
/-- a mark: the walk halts at len -/
structure StopLen : Prop where
theorem hold_len {P : Prop} (_ : StopLen) (h : Hold P) : P := h
theorem m_lenL {prog : Program} {w : World} {A : Around} {E : Value → Shared → Prop} {s : Shared} {h₀ : Heap} {L : Addr} {news : List (Addr × Obj)} {l : Addr} {vs : List Value} {n : Nat} {Q : Value → Shared → Prop} (N : News h₀ L s.heap news) (hm : (l, listOf vs.toArray n) ∈ news) (hz : vs.length ≤ 100000) (h : Q (.int (vs.length : Nat) (s.toks + 1)) { s with toks := s.toks + 1 + 1 }) :
    wpAny (model prog w) A (call (.builtin "len") [.ref l]) Q E s := by
  have e : vs.toArray.size = vs.length := by simp
  refine Calls.call_len_list (isListOf (N _ hm).1) (by rw [e]; omega) ?_
  rw [e]; exact h
/-- an item of the cells -/
theorem m_cell {prog : Program} {w : World} {A : Around} {E : Value → Shared → Prop} {s : Shared} {h₀ : Heap} {L : Addr} {news : List (Addr × Obj)} {D : Addr} {vs : List Value} {xs : List Int} {n : Nat} {value slice : PySem.Expr} {k j : Int} {u : Tok} {Q : Value → Shared → Prop} (N : News h₀ L s.heap news) (hm : (D, listOf vs.toArray n) ∈ news) (hI : IntsAre vs xs) (hj : j = (vs.length : Int)) (h0 : 0 < vs.length) (hz : vs.length ≤ 100)
    (h : ∀ z t, Q (.int z t) s)
    (hs : subscripted slice false (.ref D) (.int (k.fmod j) u) = operate [.ref D, .int (k.fmod j) u] (getItem (.ref D) (.int (k.fmod j) u)) := by with_unfolding_all rfl) :
    wpAny (model prog w) A (subscriptTail value slice (.ref D) (.int (k.fmod j) u)) Q E s := by
  subst hj
  have a0 : 0 ≤ k.fmod (vs.length : Int) := Int.fmod_nonneg_of_pos _ (by omega)
  have a1 : k.fmod (vs.length : Int) < (vs.length : Int) := Int.fmod_lt_of_pos _ (by omega)
  generalize k.fmod (vs.length : Int) = q at a0 a1 hs ⊢
  have hl := isListOf (N _ hm).1
  have hq : q.toNat < vs.length := by omega
  obtain ⟨z, t, _, e⟩ := ints_at hI (List.getElem?_eq_getElem hq)
  refine tail_any hl.typeIs slot_list_getitem.lookup (wpAny_getItem_list hl a0 (by omega) (x := vs[q.toNat]) (by simp [hq]) ?_) hs
  rw [e]; exact h z t

theorem w_DWall : True := by
  k_with_none
  (k_with "eval Name" => (k_here; k_dflt (refine' nameX_L (by k_asm) (by rfl) ?_ (by rfl) (by rfl); k_whole)))
  (k_with "cj" => (first | assumption | exact And.left (by assumption) | exact And.left (And.right (by assumption)) | exact And.right (by assumption) | exact And.left (And.right (And.right (by assumption))) | exact And.right (And.right (by assumption)) | exact And.left (And.right (And.right (And.right (by assumption)))) | exact And.right (And.right (And.right (by assumption))) | exact And.left (And.right (And.right (And.right (And.right (by assumption))))) | exact And.right (And.right (And.right (And.right (by assumption)))) | exact And.left (And.right (And.right (And.right (And.right (And.right (by assumption)))))) | exact And.right (And.right (And.right (And.right (And.right (by assumption))))) | exact And.left (And.right (And.right (And.right (And.right (And.right (And.right (by assumption))))))) | exact And.right (And.right (And.right (And.right (And.right (And.right (by assumption)))))) | exact And.left (And.right (And.right (And.right (And.right (And.right (And.right (And.right (by assumption)))))))) | exact And.right (And.right (And.right (And.right (And.right (And.right (And.right (by assumption))))))) | exact And.left (And.right (And.right (And.right (And.right (And.right (And.right (And.right (And.right (by assumption))))))))) | exact And.right (And.right (And.right (And.right (And.right (And.right (And.right (And.right (by assumption)))))))) | exact And.left (And.right (And.right (And.right (And.right (And.right (And.right (And.right (And.right (And.right (by assumption)))))))))) | exact And.right (And.right (And.right (And.right (And.right (And.right (And.right (And.right (And.right (by assumption))))))))) | exact And.left (And.right (And.right (And.right (And.right (And.right (And.right (And.right (And.right (And.right (And.right (by assumption))))))))))) | exact And.right (And.right (And.right (And.right (And.right (And.right (And.right (And.right (And.right (And.right (by assumption)))))))))) | exact And.left (And.right (And.right (And.right (And.right (And.right (And.right (And.right (And.right (And.right (And.right (And.right (by assumption)))))))))))) | exact And.right (And.right (And.right (And.right (And.right (And.right (And.right (And.right (And.right (And.right (And.right (by assumption))))))))))) | exact And.left (And.right (And.right (And.right (And.right (And.right (And.right (And.right (And.right (And.right (And.right (And.right (And.right (by assumption))))))))))))) | exact And.right (And.right (And.right (And.right (And.right (And.right (And.right (And.right (And.right (And.right (And.right (And.right (by assumption)))))))))))) | exact And.left (And.right (And.right (And.right (And.right (And.right (And.right (And.right (And.right (And.right (And.right (And.right (And.right (And.right (by assumption)))))))))))))) | exact And.right (And.right (And.right (And.right (And.right (And.right (And.right (And.right (And.right (And.right (And.right (And.right (And.right (by assumption)))))))))))))))
  (k_with "cj2" => (first | k_extra "cj" | exact Nat.lt_succ_of_lt (by k_extra "cj") | exact Nat.lt_succ_of_lt (Nat.lt_succ_of_lt (by k_extra "cj")) | exact Nat.lt_succ_self _))
  (k_with "om" => (first | (with_reducible assumption) | (with_reducible exact Nat.ne_of_gt (by k_extra "cj")) | (with_reducible exact Nat.ne_of_lt (by k_extra "cj")) | (with_reducible k_extra "cj2") | (with_reducible exact Nat.ne_of_lt (by k_extra "cj2")) | (with_reducible exact Nat.ne_of_gt (by k_extra "cj2")) | (with_reducible exact Ne.symm (by k_extra "cj")) | omega))
  (k_with "k_ne" => (refine neN ?_; (try dsimp only); k_extra "om"))
  trivial
theorem w_DWall_0 : True := by
  (k_with "sk" => (first | exact sk1 _ | exact sk2 _ | exact sk3 _ | exact sk4 _ | exact (sk1 _).symm | exact (sk2 _).symm | exact (sk3 _).symm | exact (sk4 _).symm))
  (k_with "CompEnd" => ((rename CompInv _ => hJ); refine hold_in ?_))
  (k_with "TurnEnd" => (refine hold_in ?_))
  (k_with "compareOp NotEq ref ref" => ((k_here; (with_reducible rename News _ _ _ _ => nN'); k_dflt (refine m_lists_ne nN' (by k_mem) (by k_mem) (by ke_room) ?_))))
  (k_with "compareOp Eq ref ref" => ((k_here; (with_reducible rename News _ _ _ _ => nN'); k_dflt (refine m_lists_eq nN' (by k_mem) (by k_mem) (by ke_room) ?_))))
  (k_with "compareOp NotEq ref ref" => ((k_here; (with_reducible show wpAny _ _ (compareOp CmpOp.NotEq (Value.ref _) (Value.ref _)) _ _ _); (with_reducible rename News _ _ _ _ => nN'); k_dflt (refine' m_ne_nil2 nN' (by k_mem) (by k_mem) (by ke_room) ?_))))
  (k_with "eval ListComp" => ((k_here; (with_reducible show wpAny _ _ (eval (Expr.ListComp _ [⟨_, _, [], 0⟩] _ _) _) _ _ _); (rename CompInv _ => hJ); k_dflt (refine PyProof.Rows.LCg.ListComp_U (F₀ := by k_asm) (by with_unfolding_all rfl) (by decide) (by rfl) (by decide) (by rfl) ?_))))
  (k_with "eval ListComp" => ((k_here; (with_reducible show wpAny _ _ (eval (Expr.ListComp _ [⟨_, _, [_], 0⟩] _ _) _) _ _ _); (rename CompInv _ => hJ); k_dflt (refine PyProof.Rows.LCt.ListComp_T (F₀ := by k_asm) (by with_unfolding_all rfl) (by decide) (by rfl) (by decide) (by rfl) ?_))))
  (k_with "exec Assign cons ListComp" => ((k_here; (with_reducible show wpAny _ _ (exec (Stmt.Assign [Expr.Name _ _] (Expr.ListComp _ [⟨Expr.Name _ _, _, [_], 0⟩] _ _) _) _) _ _ _); (rename CompInv _ => hJ); k_dflt (refine PyProof.Rows.LCt.Assign_ListComp_T (F₀ := by k_asm) (by rfl) (by with_unfolding_all rfl) (by with_unfolding_all rfl) (by decide) (by rfl) (by decide) (by rfl) (by rfl) (by rfl) ?_))))
  (k_with "CompSrc" => ((k_here; (rename CompInv _ => hJ); k_dflt (first | (refine comp_listM hJ (by rfl) (by k_asm) (by k_asm) (by k_mem) ?_ ?_ ?_ ?_) | (refine' comp_rangeM hJ (by rfl) (by k_asm) (by k_asm) (by assumption) (by rfl) ?_ ?_ ?_ ?_)))))
  (k_with "CompSrcT" => ((k_here; (rename CompInv _ => hJ); k_dflt (
  (refine comp_listTM hJ (by rfl) (by k_asm) (by k_asm) (by k_mem) ?_ ?_ ?_ ?_)))))
  (k_with "subscriptTail" => ((k_here; (with_reducible show wpAny _ _ (subscriptTail _ (Expr.Slice _ _ none _) (Value.bytes _ _) (Value.ref _)) _ _ _); (with_reducible rename Fr _ _ _ _ => yF); (with_reducible rename News _ _ _ _ => yN); (refine KBc.slice_K (s := ⟨_, _, _, _, _⟩) yF yN rfl (by constructor) (by constructor) (by rw [KBw.ints_length]; omega) ?_); intro _ _ _ _ _ _; (try k_sweep))))
  (k_with "subscriptTail" => ((k_here; (with_reducible show wpAny _ _ (subscriptTail _ _ (Value.ref _) (Value.int _ _)) _ _ _); (refine hold_stop (by assumption) ?_))))
  (k_with "call type:list" => ((k_here; (with_reducible show wpAny _ _ (call (Value.type "list") [Value.ref _]) _ _ _); (refine' m_listcopy (by k_asm) (by k_asm) (by k_mem) (by simp; omega) ?_); intro _ _ _ _ _ yl1; (try k_lt yl1); revert yl1; intro _; (try k_sweep))))
  (k_with "binaryOp Add bytes bytes" => ((k_here; (with_reducible show wpAny _ _ (binaryOp Operator.Add (Value.bytes _ _) (Value.bytes _ _)) _ _ _); (refine KBy.add_bytes (by first | with_unfolding_all exact Nat.le_trans (Nat.add_le_add (by assumption) (Nat.le_refl _)) (by decide)) ?_); intro _ _)))
  (k_with "exec Assign cons ListComp" => ((k_here; (rename CompInv _ => hJ); (with_reducible show wpAny _ _ (exec (Stmt.Assign [Expr.Name _ _] (Expr.ListComp _ [⟨Expr.Tuple _ _ _, _, [], 0⟩] _ _) _) _) _ _ _); k_dflt (refine en_Assign (F₀ := by k_asm) (by rfl) (by with_unfolding_all rfl) (by with_unfolding_all rfl) (by decide) (by rfl) (by decide) (by rfl) (by rfl) (by decide) (by rfl) (by rfl) ?_))))
  (k_with "call type:enumerate" => ((k_here; (with_reducible show wpAny _ _ (call (Value.type _) [Value.ref _]) (EnSrc _ _ _ _ _ _ _ _ _ _ _ _ _) _ _); (rename CompInv _ => hJ); (with_reducible rename Fr _ _ _ _ => yF); (with_reducible rename News _ _ _ _ => yN); (with_reducible rename Heap.IsTuple _ _ _ => yTup); k_dflt (refine' en_srcT hJ (by rfl) yF yN yTup ?_ ?_ ?_ ?_))))
  (k_with "call ref" => ((k_here; (with_reducible show wpAny _ _ (call (Value.ref 220) _) _ _ _); (refine hold_stop (by assumption) ?_))))
  (k_with "exec Assign cons ListComp" => ((refine hold_stop (by assumption) ?_)))
  (k_with "k_updF" => (first | (refine' UpdF.head (by k_all)) | (refine' UpdF.tail (by first | exact NeA.ne (by with_reducible assumption) | exact (NeA.ne (by with_reducible assumption)).symm | k_extra "sk" | k_ne) (by k_updF))))
  (k_with "k_all" => (first | with_reducible assumption | exact List.forall_mem_nil _ | (refine' List.forall_mem_cons.mpr ⟨?_, ?_⟩; (first | exact NeA.ne (by with_reducible assumption) | exact (NeA.ne (by with_reducible assumption)).symm | k_extra "sk" | k_ne); k_all)))
  (k_with "k_off" => (((try dsimp only [List.take, OffAll]); (repeat' (first | exact True.intro | refine And.intro ?_ ?_ | (refine offN ?_ ?_ ?_ ?_ <;> first | with_reducible assumption | exact ⟨by k_extra "om"⟩))))))
  (k_with "exec For Name Name cons nil" => ((refine hold_stop (by assumption) ?_)))
  (k_with "exec For Name Call cons nil" => ((refine hold_stop (by assumption) ?_)))
  (k_with "exec For Name Tuple cons nil" => ((refine hold_stop (by assumption) ?_)))
  (k_with "call ref" => ((k_here; (with_reducible show wpAny _ _ (call (Value.ref 205) _) _ _ _); (refine hold_stop (by assumption) ?_))))
  (k_with "call ref" => ((k_here; (with_reducible show wpAny _ _ (call (Value.ref 136) _) _ _ _); (refine hold_stop (by assumption) ?_))))
  (k_with "call ref" => ((k_here; (with_reducible show wpAny _ _ (call (Value.ref 144) _) _ _ _); (refine hold_stop (by assumption) ?_))))
  (k_with "call ref" => ((k_here; (with_reducible show wpAny _ _ (call (Value.ref 152) _) _ _ _); (refine hold_stop (by assumption) ?_))))
  (k_with "exec If" => ((k_here; (refine hold_if (by assumption) ?_))))
  (k_with "exec For Name Name cons nil" => ((k_here; (rename LoopInvZ _ _ _ => hJX); (rename Fr _ _ _ _ => lF'); (with_unfolding_all refine' For_invVF lF' (by exact rfl) (by exact rfl) ?_; k_whole))))
  (k_with "exec For Name Call cons nil" => ((k_here; (rename LoopInvZ _ _ _ => hJX); (rename Fr _ _ _ _ => lF'); (with_unfolding_all refine' For_invVF lF' (by exact rfl) (by exact rfl) ?_; k_whole))))
  (k_with "pyIter ref" => ((k_here; (rename LoopInvZ _ _ _ => hJ); (rename Fr _ _ _ _ => F'); (rename News _ _ _ _ => N'); (with_unfolding_all refine loop_listZ hJ rfl (by rfl) rfl F' N' ?_ ?_ ?_ ?_))))
  (k_with "TurnPost" => ((dsimp only [TurnPost])))
  (k_with "call builtin:list.append" => ((k_here; (try dsimp only [List.nil_append, List.cons_append]); (with_reducible show wpAny _ _ (call (Value.builtin "list.append") [Value.ref _, _]) _ _ _); (refine' m_append (by k_asm) (by k_asm) (by k_updF) (by omega) ?_))))
  (k_with "binaryOp Add ref ref" => ((k_here; (with_reducible show wpAny _ _ (binaryOp Operator.Add (Value.ref 213) (Value.ref _)) _ _ _); (with_reducible rename Heap.IsTuple _ _ _ => yTup); k_dflt (refine' m_tupadd (by k_asm) (by k_asm) yTup (by k_mem) (by exact map_ne (by k_extra "om")) (by exact List.cons_ne_nil _ _) (by simp; omega) ?_); intro _ _ _ _ yl1; (try k_lt yl1); revert yl1; intro _; (try k_sweep))))
  (k_with "exec Assign cons ListComp" => ((k_here; (with_reducible show wpAny _ _ (exec (Stmt.Assign [Expr.Name (Str.ofString "gone") _] _ _) _) _ _ _); (rename CompInv _ => hJ); (refine wpAny_Assign_Name (hs := by with_unfolding_all rfl) ?_))))
  (k_with "compareOp NotIn bytes ref" => ((k_here; (with_reducible rename News _ _ _ _ => nN'); (refine m_notin nN' (by k_mem) ?_))))
  (k_with "exec For Name Name cons nil" => ((k_here; (rename LoopInvC _ _ _ => hJX); (rename Fr _ _ _ _ => lF'); (with_unfolding_all refine' For_turns lF' ?_); k_whole)))
  (k_with "exec For Name Tuple cons nil" => ((k_here; (rename StopIter => hJX); (rename Fr _ _ _ _ => lF'); (with_unfolding_all refine' For_turns lF' ?_); k_whole)))
  (k_with "pyIter ref" => ((k_here; (with_reducible show wpAny _ _ (pyIter (Value.ref _)) (fun it s₂ => TurnsAt _ _ _ _ _ _ _ _ _ it s₂) _ _); (rename LoopInvC _ _ _ => hJ); (rename Fr _ _ _ _ => F'); (rename News _ _ _ _ => N'); (with_unfolding_all refine loop_tupC hJ rfl (by rfl) rfl rfl F' N' ?_ ?_ ?_ ?_))))
  (k_with "compareOp NotEq ref ref" => ((k_here; (with_reducible rename News _ _ _ _ => nN'); k_dflt (refine m_pair_neN nN' (by k_mem) (by k_mem) (by ke_room) ?_))))
  (k_with "pyIter ref" => ((k_here; (with_reducible show wpAny _ _ (pyIter (Value.ref _)) (fun it s₂ => TurnsAt _ _ _ _ _ _ _ _ _ it s₂) _ _); (refine hold_iter (by assumption) ?_))))
  (k_with "compareOp Eq ref ref" => ((k_here; (with_reducible rename News _ _ _ _ => nN'); k_dflt (refine m_eq_nil nN' (by k_mem) (by k_mem) (by ke_room) ?_))))
  (k_with "call builtin:len" => ((k_here; (with_reducible show wpAny _ _ (call (Value.builtin "len") [Value.ref _]) _ _ _); (refine m_len (by k_asm) (by k_mem) (by k_extra "om") ?_))))
  (k_with "call builtin:sorted" => ((k_here; (with_reducible show wpAny _ _ (call (Value.builtin "sorted") [Value.ref _]) _ _ _); (refine hold_stop (by assumption) ?_))))
  (k_with "callWith ref" => ((k_here; (rename CallM0 => hCM); (with_reducible rename Fr _ _ _ _ => zF'); (with_reducible rename Frag.In _ _ => zX'); k_dflt (refine' callWith_K0 (Frag.In.keeps zX' (Fr.keep zF')) (by k_is) ?_; k_whole))))
  (k_with "compareOp Eq ref ref" => ((k_here; (refine hold_eq (by assumption) ?_))))
  (k_with "call builtin:len" => ((k_here; (refine hold_len (by assumption) ?_))))
  (k_with "call builtin:list.pop" => ((k_here; (refine hold_stop (by assumption) ?_))))
  (k_with "call builtin:list.index" => ((k_here; (refine hold_stop (by assumption) ?_))))
  trivial
theorem t02 : PySem.Challenge.rw_pb0243_02.Holds := hd02 (by
  k_go0
  (all_goals try k_fold)
  have hS : StopFor := ⟨⟩
  k_steps
  rename StopFor => hS0; clear hS0
  unfold Hold
  with_reducible rename Shared.gens _ = _ => hgens
  with_reducible rename News _ _ _ _ => N2
  with_reducible rename Fr _ _ _ _ => F2
  with_reducible rename Frag.In _ _ => KX
  (with_reducible rename Heap.CodeRec _ _ _ => z; clear z)
  (rename Dflts .. => z; clear z)
  (rename CellsAre .. => z; clear z)
  rename_i lx vs ly hLs ra w1 r0 hIs hr hc1 hc2 K0 hh1 tk1 cw5 cw4 cw3 cw2 cw1 z5 z4 z3 z2 z1 D2 ws2 h4 hI2 hC2 hL2 l12 k1 k2 g2 hI8 hL8 D1 h3 tk1 o1 l0 h2 l11 D0 ws0 h1 hI0 l10 h0
  have c5 : cw5.data = Data.cell none := z5
  have c4 : cw4.data = Data.cell none := z4
  have c3 : cw3.data = Data.cell none := z3
  have c2 : cw2.data = Data.cell none := z2
  have c1 : cw1.data = Data.cell none := z1
  clear z5 z4 z3 z2 z1
  have F3 : Fr _ _ h0 (fun y => if y = Str.ofString "cells" then some (.ref D0) else if y = Str.ofString "script" then some (.ref lx) else none) := F2
  clear F2
  have N3 : News _ _ h0 [(D0, W.listOf ws0.toArray 0), (_, cw5), (_, cw4), (_, cw3), (_, cw2), (_, cw1)] := fun p hp => by
    rcases List.mem_cons.mp hp with rfl | hp
    · exact N2 _ (.head _)
    · exact N2 _ (.tail _ (.tail _ (.tail _ (.tail _ hp))))
  clear N2
  rename World => w
  rename Shared => s1
  have N3k := fun (_ : Unit) => N3
  have hlen : ws0.length ≤ 100 ∧ 2 ≤ ws0.length := by
    rw [hI0.length]; simp; omega
  obtain ⟨l10a, l10b, l10c, l10⟩ := l10
  clear hI2 hC2 hL2 l12 k1 k2 g2 hI8 hL8 o1 l11 l10a l10b l10c ra w1 r0 hr hLs hIs
  have qD5 : NeA D0 (s1.heap.objs.size + 1 + 1 + 1 + 1 + 1) := ⟨by k_extra "om"⟩
  have qD4 : NeA D0 (s1.heap.objs.size + 1 + 1 + 1 + 1) := ⟨by k_extra "om"⟩
  have qD3 : NeA D0 (s1.heap.objs.size + 1 + 1 + 1) := ⟨by k_extra "om"⟩
  have qD2 : NeA D0 (s1.heap.objs.size + 1 + 1) := ⟨by k_extra "om"⟩
  have qD1 : NeA D0 (s1.heap.objs.size + 1) := ⟨by k_extra "om"⟩
  obtain ⟨pt, hpt, ept⟩ := primes_at KX
  have hTup : Heap.IsTuple _ _ _ := isTupOf ept
  have hptl : pt.length = 10 := by have := congrArg List.length hpt; simpa [pr] using this
  have hJ : CompInv (fun i ys nx => nx = ledOf N3 ∧ ∃ cs : List (Bytes × Tok), ys = cs.map rv ∧ cs.map (·.1) = c0.take i) := ⟨⟩
  dsimp only [ledOf] at hJ
  k_steps
  · exact ⟨rfl, [], rfl, rfl⟩
  · unfold Hold EnTurn
    rintro hq i v₁ v₂ ys _ I oI it oit C oC D m₂ h tk E' hi hpt' ⟨rfl, cs, rfl, hcs⟩ hns hm1 hm2 F4 N4 off ne3 offi
    obtain ⟨t, x, hx, ev⟩ := hpt'
    have ev1 : v₁ = .int i t := by have := congrArg (fun a => a[0]?) ev; simpa using this
    have ev2 : v₂ = x := by have := congrArg (fun a => a[1]?) ev; simpa using this
    subst ev1 ev2
    clear ev
    obtain ⟨⟨rb, rt⟩, hr, rfl⟩ : ∃ r, pt[i]? = some r ∧ rv r = v₂ := by simpa using hx
    clear hx
    have hi : i < 10 := by simpa [hptl] using hi
    have hrp : pr[i]? = some rb := by rw [← hpt, List.getElem?_map, hr]; rfl
    have hrb : rb.size ≤ 1000 := pr_size hrp
    dsimp only [rv] at hm2
    k_steps
    all_goals
      with_reducible rename Fr _ _ _ _ => mF
      with_reducible rename News _ _ _ _ => mN
      with_reducible rename (_ : Int) = _ => hf
      refine PyProof.Rows.LCg.CompEnd.intro mF mN _ (fun _ h => .tail _ h) off (.inr ⟨_, .head _, rfl, 0, rfl⟩) ⟨_, fun p hp => ⟨.tail _ hp, offi p hp⟩, rfl, cs ++ [(_, _)], by simp; exact ⟨rfl, rfl⟩, ?_⟩
      exact c0_next hi hrp hcs (by decide) hf
  · unfold Hold
    rintro g ys _ ⟨rfl, cs, rfl, hcs⟩ D h tk F5 N5 off
    rename CompInv _ => z; clear z
    have hcs : cs.map (·.1) = c0 := by simpa [hptl, c0] using hcs
    have hcl : cs.length = 10 := by have := congrArg List.length hcs; simpa [c0] using this
    have N5 : News _ _ h ((D, W.listOf (cs.map rv).toArray (cs.map rv).length) :: _) := N5
    have hS : StopFor := ⟨⟩
    k_steps
    rename StopFor => hS0; clear hS0
    unfold Hold
    k_sweep
    (refine' m_pick3s ?N ?hm ?_; (case N => k_asm); (case hm => k_mem))
    intro acc tacc hacc
    have hS : StopFor := ⟨⟩
    k_steps
    rename StopFor => hS0; clear hS0
    unfold Hold
    with_reducible rename News _ _ _ _ => N6
    with_reducible rename Fr _ _ _ _ => F6
    have hcz : ∀ r ∈ cs, r.1.size ≤ 1000 := c0_size hcs
    k_dflt (refine' m_make (.inl rfl) hcz ?hl ?k1 F6 ?k3 ?N ?T ?kK ?kd ?ku ?_; (case hl => omega); (case kK => first | exact rfl | assumption); (case k1 => k_asm); (case k3 => k_asm); (case T => k_asm); (case kd => first | ktr_room | decide); (case ku => first | ktr_units | decide); (case N => exact fun p hp => N6 p (by rw [List.mem_singleton.mp hp]; k_mem)))
    intro I st atv h7 tk7 tk2 tm2 ta2 tn2 tw2 tl2 hi2 nc2 ns2 X eI1 eI2 eI3 md at_ F7 N7 ow kp fr frX
    obtain ⟨e1, hrows, hwhich, hnow, hlast⟩ := md
    subst eI1 e1
    have N8 := News.join (A := [(_, _), (_, _), (_, _), (_, _), (_, _), (_, _), (_, _)]) (pick7 N6) kp N7
    clear N7
    simp only [List.cons_append, List.nil_append] at N8
    obtain ⟨fr1, fr2, fr3⟩ := fr
    have n1 := ow.1.n1
    have n2 := ow.1.n2
    have n3 := ow.1.n3
    have n4 := ow.1.n4
    have n5 := ow.1.n5
    have n6 := ow.1.n6
    have gL := (N6 _ (.tail _ (.head _))).1
    have gD := (N6 _ (.tail _ (.tail _ (.tail _ (.tail _ (.head _)))))).1
    have g5 := (N6 _ (.tail _ (.tail _ (.tail _ (.tail _ (.tail _ (.head _))))))).1
    have g4 := (N6 _ (.tail _ (.tail _ (.tail _ (.tail _ (.tail _ (.tail _ (.head _)))))))).1
    have g3 := (N6 _ (.tail _ (.tail _ (.tail _ (.tail _ (.tail _ (.tail _ (.tail _ (.head _))))))))).1
    have g2 := (N6 _ (.tail _ (.tail _ (.tail _ (.tail _ (.tail _ (.tail _ (.tail _ (.tail _ (.head _)))))))))).1
    have g1 := (N6 _ (.tail _ (.tail _ (.tail _ (.tail _ (.tail _ (.tail _ (.tail _ (.tail _ (.tail _ (.head _))))))))))).1
    have qgLx := NeA.none gL fr1
    have qgLd := NeA.none gL fr2
    have qgLs := NeA.none gL fr3
    have qgLX := X_none frX gL
    have qgDx := NeA.none gD fr1
    have qgDd := NeA.none gD fr2
    have qgDs := NeA.none gD fr3
    have qgDX := X_none frX gD
    have qg5x := NeA.none g5 fr1
    have qg5d := NeA.none g5 fr2
    have qg5s := NeA.none g5 fr3
    have qg5X := X_none frX g5
    have qg4x := NeA.none g4 fr1
    have qg4d := NeA.none g4 fr2
    have qg4s := NeA.none g4 fr3
    have qg4X := X_none frX g4
    have qg3x := NeA.none g3 fr1
    have qg3d := NeA.none g3 fr2
    have qg3s := NeA.none g3 fr3
    have qg3X := X_none frX g3
    have qg2x := NeA.none g2 fr1
    have qg2d := NeA.none g2 fr2
    have qg2s := NeA.none g2 fr3
    have qg2X := X_none frX g2
    have qg1x := NeA.none g1 fr1
    have qg1d := NeA.none g1 fr2
    have qg1s := NeA.none g1 fr3
    have qg1X := X_none frX g1
    clear gL gD g5 g4 g3 g2 g1 fr1 fr2 fr3 frX kp N6 F6
    dsimp only at qgLx qgLd qgLs qgLX qgDx qgDd qgDs qgDX qg5x qg5d qg5s qg5X qg4x qg4d qg4s qg4X qg3x qg3d qg3s qg3X qg2x qg2d qg2s qg2X qg1x qg1d qg1s qg1X
    obtain ⟨oo0, oo5, oo4, oo3, oo2, oo1, _⟩ := off
    have qc0 : NeA D0 I.cA := ⟨oo0⟩
    have qc5 : NeA (s1.heap.objs.size + 1 + 1 + 1 + 1 + 1) I.cA := ⟨oo5⟩
    have qc4 : NeA (s1.heap.objs.size + 1 + 1 + 1 + 1) I.cA := ⟨oo4⟩
    have qc3 : NeA (s1.heap.objs.size + 1 + 1 + 1) I.cA := ⟨oo3⟩
    have qc2 : NeA (s1.heap.objs.size + 1 + 1) I.cA := ⟨oo2⟩
    have qc1 : NeA (s1.heap.objs.size + 1) I.cA := ⟨oo1⟩
    clear oo0 oo5 oo4 oo3 oo2 oo1
    have hIf : StopIf := ⟨⟩
    k_steps
    clear hIf
    unfold Hold
    refine cut_next (mkTail (N3k ()) I.cA) ?walk ?tail
    case walk =>
      have hS : StopFor := ⟨⟩
      k_steps
      · rename StopFor => hS0; clear hS0
        unfold Hold
        with_reducible rename News _ _ _ _ => N9
        with_reducible rename Fr _ _ _ _ => F9
        with_reducible rename (acc == _) = true => hsq
        have hsq' : (I.acc == Str.ofString "sequential") = true := by rw [eI3]; exact hsq
        have hacc' : I.acc = Str.ofString "sequential" := by
          rw [eI3]
          rcases hacc with e | e | e
          · exact e
          · rw [e] at hsq; exact absurd hsq (by decide)
          · rw [e] at hsq; exact absurd hsq (by decide)
        have hro : RowsOk st := .made hrows
        obtain ⟨lA, hLA⟩ : ∃ lA, lA = qgLx.fst := ⟨_, rfl⟩
        dsimp only [NeA.fst] at hLA
        subst hLA
        refine useL (k := 7) ⟨⟩ ow (m_delete (key := #[109, 109]) eI2 (z := -1) (by unfold delPlace; rw [if_pos hsq']; exact last_none hro hlast) (.inl rfl)) (fun po => del_sub (.inl rfl) po) (by k_asm) F9 (by k_asm) N9 (by k_asm) (by first | exact rfl | assumption) (by k_mem) (by k_mem) (by k_mem) (by k_mem) (fun q hq => .tail _ (.tail _ (.tail _ (.tail _ (.tail _ (.tail _ (.tail _ (.tail _ (.tail _ (.tail _ (.tail _ hq))))))))))) (by first | ktr_room | decide) (by first | ktr_units | decide) True.intro (by k_extra "k_off") ?_
        intro v st2 atv2 h16 tk16 kf tmf taf tnf twf tlf hif ncf nsf F16 N16 G16 ow2 po
        obtain ⟨rfl, q1, q2⟩ := po
        obtain ⟨rfl, tv, ev⟩ := q1 rfl
        simp only [hsq', if_true] at ev
        subst ev
        dsimp only [List.take, List.cons_append, List.nil_append] at N16
        clear q1 q2 N9 F9
        have hS : StopFor := ⟨⟩
        have hJ0 : LoopInvZ 0 (W.listOf #[] 0) (fun _ _ _ => True) := ⟨⟩
        k_steps
        rename StopFor => hS0; clear hS0
        rename LoopInvZ _ _ _ => hS0; clear hS0
        unfold Hold
        with_reducible rename News _ _ _ _ => N17
        with_reducible rename Fr _ _ _ _ => F17
        refine m_sorted_bytes F17 N17 (.head _) (by rw [hcl]; decide) (c0_tri (by rw [hcs]; exact c0_nodup)) ?_
        intro D3 c3' h3' ys F18 N18 lo18 hperm hsrt
        have d3x : NeA D3 I.x := ⟨Nat.ne_of_gt (lo18 _ (.tail _ (.tail _ (.tail _ (.tail _ (.tail _ (.tail _ (.tail _ (.head _)))))))))⟩
        have d3d : NeA D3 I.dx := ⟨Nat.ne_of_gt (lo18 _ (.tail _ (.tail _ (.tail _ (.tail _ (.tail _ (.tail _ (.tail _ (.tail _ (.head _))))))))))⟩
        have d3c : NeA D3 I.cA := ⟨Nat.ne_of_gt (lo18 _ (.tail _ (.tail _ (.tail _ (.tail _ (.tail _ (.tail _ (.tail _ (.tail _ (.tail _ (.head _)))))))))))⟩
        have d3s : NeA D3 I.sA := ⟨Nat.ne_of_gt (lo18 _ (.tail _ (.tail _ (.tail _ (.tail _ (.tail _ (.tail _ (.tail _ (.tail _ (.tail _ (.tail _ (.head _))))))))))))⟩
        have d3l : NeA D3 lA := ⟨Nat.ne_of_gt (lo18 _ (.head _))⟩
        clear lo18
        obtain ⟨⟨pa, po⟩, hpX, hpW⟩ := at_.w (h₀ := s1.heap)
        have N19 := fun q hq => (List.mem_cons.mp hq).elim (fun e => e ▸ N18 (pa, po) (.tail _ (.tail _ (.tail _ (.tail _ (.tail _ (.tail _ (.tail _ (.tail _ (.tail _ (.tail _ (.tail _ (.tail _ hpX))))))))))))) (N18 q)
        change News s1.heap s1.heap.objs.size _ ((pa, po) :: _) at N19
        clear N18
        have hJ : LoopInvZ D3 (W.listOf (ys.map rv).toArray c3') (fun i m nx => SeqJ w I X D3 D0 (s1.heap.objs.size + 1 + 1 + 1 + 1 + 1) (s1.heap.objs.size + 1 + 1 + 1 + 1) (s1.heap.objs.size + 1 + 1 + 1) (s1.heap.objs.size + 1 + 1) (s1.heap.objs.size + 1) lA (W.listOf (ys.map rv).toArray c3') (W.listOf ws0.toArray 0) (ys.map (·.1)) s1.heap i m nx) := ⟨⟩
        k_steps
        · exact fun i m nx h => h.mem
        · refine ⟨st2.cs, (pa, po), _, _, ⟨st2, atv2, kf, tmf, taf, tnf, twf, tlf, hif, ncf, nsf⟩, ⟨cw5, cw4, cw3, cw2, cw1, none, none, none, none, none⟩, m_norm4 rfl rfl rfl rfl, rfl, ⟨c5, c4, c3, c2, c1⟩, ow2, rfl, by rw [hcs]; exact List.Sublist.refl _, hpW.1, qgLX _ hpX, hwhich, hnow, hro, fun b hb => hperm.mem_iff.mp hb, fun b hb => hperm.mem_iff.mpr hb, fun r hr => ⟨_, _, hpW, low_zero (by rw [hcs]; exact List.Sublist.refl _) fun b hb => min_of hsrt hr (hperm.mem_iff.mpr hb)⟩⟩
        · unfold Hold
          clear ow2 ow hrows hwhich hnow hlast hro hpX hpW at_
          rintro I' i v m₁ nx₁ h tk itO hi hne ⟨ls, ⟨pa, po⟩, cl, u, ⟨st', atv', tk3, tm3, ta3, tn3, tw3, tl3, hi3, nc3, ns3⟩, ⟨w5, w4, w3, w2, w1, x5, x4, x3, x2, x1⟩, rfl, rfl, ⟨e5, e4, e3, e2, e1⟩, ow', hls, hsub, hp6, hpl, hw6, hn6, hro6, hin, hof, hlow⟩ F20 N20
          dsimp only at N20 e5 e4 e3 e2 e1 ow' hls hsub hw6 hn6 hro6 hin hof hlow
          obtain ⟨⟨rb, rt⟩, hr, rfl⟩ : ∃ r, ys[i]? = some r ∧ rv r = v := by simpa using hi
          have hrY : (ys.map (·.1))[i]? = some rb := by rw [List.getElem?_map, hr]; rfl
          obtain ⟨ab, ai, hat, hlo⟩ := hlow rb hrY
          have hsub6 : (st'.cs.map (·.1)).Sublist c0 := by rw [← hls]; exact hsub
          have hrc := at_drop hrY hin
          have hlz : st'.cs.length < 60 := by
            have := ls_len10 (ls := st'.cs) hsub6
            omega
          have i'x := neA_symm (hne _ (.tail _ (.tail _ (.tail _ (.tail _ (.tail _ (.tail _ (.tail _ (.tail _ (.tail _ (.head _)))))))))))
          have i'd := neA_symm (hne _ (.tail _ (.tail _ (.tail _ (.tail _ (.tail _ (.tail _ (.tail _ (.tail _ (.tail _ (.tail _ (.head _))))))))))))
          have i'c := neA_symm (hne _ (.tail _ (.tail _ (.tail _ (.tail _ (.tail _ (.tail _ (.tail _ (.tail _ (.tail _ (.tail _ (.tail _ (.head _)))))))))))))
          have i's := neA_symm (hne _ (.tail _ (.tail _ (.tail _ (.tail _ (.tail _ (.tail _ (.tail _ (.tail _ (.tail _ (.tail _ (.tail _ (.tail _ (.head _))))))))))))))
          have i'l := neA_symm (hne _ (.tail _ (.tail _ (.head _))))
          dsimp only at i'x i'd i'c i's i'l
          dsimp only [rv] at F20
          have hS : StopFor := ⟨⟩
          have hCM : CallM0 := ⟨⟩
          k_steps
          rename StopFor => hS0; clear hS0
          rename CallM0 => hS0; clear hS0
          unfold Hold
          with_reducible rename News _ _ _ _ => N26
          with_reducible rename Fr _ _ _ _ => F26
          refine useL (k := 10) ⟨⟩ ow' (m_read_next (ab := ab) (ai := ai) hlz (.inr hacc') (.inl eI2)) (fun po => rn_sub po) (by k_asm) F26 (by k_asm) N26 (by k_asm) (by first | exact rfl | assumption) (by k_mem) (by k_mem) (by k_mem) (by k_mem) (fun q hq => .tail _ (.tail _ (.tail _ (.tail _ (.tail _ (.tail _ (.tail _ (.tail _ (.tail _ (.tail _ (.tail _ (.tail _ (.tail _ (.tail _ hq)))))))))))))) (by first | ktr_room | decide) (by first | ktr_units | decide) (hat.is F26 N26 (.tail _ (.head _))) (by dsimp only [List.take, OffAll]; refine ⟨?_, hp6, ?_⟩ <;> k_extra "k_off") ?_
          intro v st7 atv7 h17 tk17 kx tmx tax tnx twx tlx hix ncx nsx F27 N27 G27 ow7 po
          dsimp only [List.take, List.cons_append, List.nil_append] at N27
          obtain ⟨i0, hi0, hg0, ⟨rA, rt1, rt2, rfl, eT, nT⟩, rfl, A⟩ := rn_here (I := I) hsub6 hrc hlo hw6 hn6 po
          clear po
          have N28 := led_grow F26 N27 eT nT
          obtain ⟨⟨pa3, po3⟩, N29, hat3, hp3⟩ := at_new F27 N28 (.tail _ (.tail _ (.tail _ (.tail _ (.tail _ (.head _)))))) (offN qgDx qgDd qc0 qgDs) A
          have hpl3 := ne_new N26 (.tail _ (.tail _ (.tail _ (.head _)))) (by show @Ne Nat D0 lA; omega) hp3
          have hi3 := ne_new N26 (.head _) (by exact hne _ (.tail _ (.tail _ (.tail _ (.head _))))) hp3
          have N30 := seq_pick N29
          have hps3 := hat3.1
          clear N27 N28 N29 A hp3 eT nT hat N26 F26
          have hSL : StopLen := ⟨⟩
          k_steps
          · unfold Hold
            k_sweep
            with_reducible rename News _ _ _ _ => N31
            refine m_lenL N31 (.tail _ (.tail _ (.tail _ (.tail _ (.tail _ (.head _)))))) (by rw [List.length_map]; have := ls_len hsub; omega) ?_
            k_steps
            unfold Hold
            refine m_lenL N31 (.tail _ (.tail _ (.tail _ (.tail _ (.tail _ (.tail _ (.head _))))))) (by k_extra "om") ?_
            rename StopLen => hS0; clear hS0
            have hS : StopFor := ⟨⟩
            k_steps
            rename StopFor => hS0; clear hS0
            unfold Hold
            with_reducible rename Fr _ _ _ _ => F31
            refine m_cell N31 (.tail _ (.tail _ (.tail _ (.tail _ (.tail _ (.tail _ (.head _))))))) hI0 rfl (by k_extra "om") hlen.1 ?_
            intro zc tzc
            have hS : StopFor := ⟨⟩
            k_steps
            · rename StopFor => hS0; clear hS0
              unfold Hold
              with_reducible rename Fr _ _ _ _ => F32
              have N32 := fun q hq => N31 q (.tail _ (.tail _ hq))
              change News _ _ _ _ at N32
              clear N31
              have hro7 : RowsOk { st' with nowhere := false, last := (firsts st').getD i0 0 } := hro6.same rfl rfl
              have hzz7 : (i0 : Int) = -1 ∨ ∃ k : Nat, (i0 : Int) = (k : Int) ∧ k < ({ st' with nowhere := false, last := (firsts st').getD i0 0 } : St).cs.length := .inr ⟨i0, rfl, hi0⟩
              refine useL (k := 10) ⟨⟩ ow7 (m_delete (key := #[109, 109]) eI2 (z := (i0 : Int)) (by unfold delPlace; rw [if_pos hsq']; exact last_is hro7 hi0 rfl) hzz7) (fun po => del_sub hzz7 po) (by k_asm) F32 (by k_asm) N32 (by k_asm) (by first | exact rfl | assumption) (by k_mem) (by k_mem) (by k_mem) (by k_mem) (fun q hq => .tail _ (.tail _ (.tail _ (.tail _ (.tail _ (.tail _ (.tail _ (.tail _ (.tail _ (.tail _ (.tail _ (.tail _ (.tail _ (.tail _ hq)))))))))))))) (by first | ktr_room | decide) (by first | ktr_units | decide) True.intro (by dsimp only [List.take, OffAll]; refine ⟨?_, hps3, ?_⟩ <;> k_extra "k_off") ?_
              intro v st8 atv8 h18 tk18 ky tmy tay tny twy tly hiy ncy nsy F33 N33 G33 ow8 po
              dsimp only [List.take, List.cons_append, List.nil_append] at N33
              obtain ⟨rfl, _, q2⟩ := po
              obtain ⟨e8, tv8, rfl⟩ := q2 i0 rfl
              clear q2 N32 F32
              have hro8 : RowsOk st8 := hro7.erase (by rw [e8]) (by rw [e8])
              have hl8 : st8.last = -1 := by rw [e8]
              have hc8 : st8.cs = st'.cs.eraseIdx i0 := by rw [e8]
              have hw8 : st8.which = 0 := by rw [e8]; exact hw6
              have hn8 : st8.nowhere = false := by rw [e8]
              clear e8
              have hS : StopFor := ⟨⟩
              k_steps
              rename StopFor => hS0; clear hS0
              unfold Hold
              with_reducible rename News _ _ _ _ => N34
              with_reducible rename Fr _ _ _ _ => F34
              refine useL (k := 10) ⟨⟩ ow8 (m_delete (key := #[109, 109]) eI2 (z := -1) (by unfold delPlace; rw [if_pos hsq']; exact last_none hro8 hl8) (.inl rfl)) (fun po => del_sub (.inl rfl) po) (by k_asm) F34 (by k_asm) N34 (by k_asm) (by first | exact rfl | assumption) (by k_mem) (by k_mem) (by k_mem) (by k_mem) (fun q hq => .tail _ (.tail _ (.tail _ (.tail _ (.tail _ (.tail _ (.tail _ (.tail _ (.tail _ (.tail _ (.tail _ (.tail _ (.tail _ (.tail _ hq)))))))))))))) (by first | ktr_room | decide) (by first | ktr_units | decide) True.intro (by dsimp only [List.take, OffAll]; refine ⟨?_, hps3, ?_⟩ <;> k_extra "k_off") ?_
              intro v st9 atv9 h19 tk19 kz tmz taz tnz twz tlz hiz ncz nsz F35 N35 G35 ow9 po
              dsimp only [List.take, List.cons_append, List.nil_append] at N35
              obtain ⟨rfl, q1, _⟩ := po
              obtain ⟨e9, tv9, ev9⟩ := q1 rfl
              simp only [hsq', if_true] at ev9
              subst ev9 e9
              clear q1 N34 F34
              have hS : StopFor := ⟨⟩
              k_steps
              rename StopFor => hS0; clear hS0
              unfold Hold
              with_reducible rename News _ _ _ _ => N36
              with_reducible rename Fr _ _ _ _ => F36
              have hgl : (ls.map (·.1))[i0]? = some rb := by rw [hls]; exact hg0
              have hil : i0 < ls.length := by
                have := (List.getElem?_eq_some_iff.mp hgl).1
                simpa using this
              have hlz2 := ls_len hsub
              refine m_index_bytes (cs := ls) (i := i0) N36 (.tail _ (.tail _ (.tail _ (.head _)))) (by k_extra "om") hil hgl (only_at hsub hgl) ?_
              have hS : StopFor := ⟨⟩
              k_steps
              rename StopFor => hS0; clear hS0
              unfold Hold
              have g3l : NeA pa3 lA := ⟨hpl3⟩
              have lD : NeA lA D0 := ⟨by k_extra "om"⟩
              have l5 : NeA lA (s1.heap.objs.size + 1 + 1 + 1 + 1 + 1) := ⟨by k_extra "om"⟩
              have l4 : NeA lA (s1.heap.objs.size + 1 + 1 + 1 + 1) := ⟨by k_extra "om"⟩
              have l3 : NeA lA (s1.heap.objs.size + 1 + 1 + 1) := ⟨by k_extra "om"⟩
              have l2 : NeA lA (s1.heap.objs.size + 1 + 1) := ⟨by k_extra "om"⟩
              have l1' : NeA lA (s1.heap.objs.size + 1) := ⟨by k_extra "om"⟩
              have lc : NeA lA I.cA := ⟨by k_extra "om"⟩
              refine m_popAt (f := rv) (xs := ls) F36 N36 (upd_left i'l g3l d3l lD l5 l4 l3 l2 l1' qgLx qgLd lc qgLs qgLX) (List.getElem?_eq_getElem hil) (by k_extra "om") ?_
              intro h20 F37 N37
              k_steps
              have hs8 : (st9.cs.map (·.1)).Sublist c0 := by rw [hc8, ← map_eraseIdx']; exact (List.eraseIdx_sublist _ _).trans hsub6
              have hof8 : ∀ b ∈ st9.cs.map (·.1), b ∈ ys.map (·.1) := by rw [hc8, ← map_eraseIdx']; exact fun b hb => hof b (List.mem_of_mem_eraseIdx hb)
              exact ⟨_, _, _, _, rfl, F37, N37, ne_of_addr2 hne (Ne.symm hi3) rfl, ⟨ls.eraseIdx i0, (pa3, po3), cl + 1, _, ⟨st9, _, kz, tmz, taz, tnz, twz, tlz, hiz, ncz, nsz⟩, ⟨w5, w4, w3, w2, w1, x5, x4, x3, x2, x1⟩, m_norm4 rfl rfl rfl rfl, rfl, ⟨e5, e4, e3, e2, e1⟩, ow9, by rw [hc8, ← map_eraseIdx', ← map_eraseIdx', hls], by rw [← map_eraseIdx']; exact (List.eraseIdx_sublist _ _).trans hsub, hps3, hpl3, hw8, hn8, hro8, by rw [hc8, ← map_eraseIdx']; exact rest_in hsrt hrY hg0 hin, hof8, fun r' hr' => ⟨_, _, hat3, low_turn hs8 hsrt hof8 hrY (hsub6.subset hrc) hr'⟩⟩⟩
            · with_reducible rename Fr _ _ _ _ => mF
              exact ⟨_, _, _, _, rfl, mF, (fun q hq => N31 q (.tail _ (.tail _ hq))), ne_of_addr2 hne (Ne.symm hi3) rfl, ⟨ls, (pa3, po3), cl, _, ⟨_, atv7, kx, tmx, tax, tnx, twx, tlx, hix, ncx, nsx⟩, ⟨w5, w4, w3, w2, w1, x5, x4, x3, x2, x1⟩, m_norm4 rfl rfl rfl rfl, rfl, ⟨e5, e4, e3, e2, e1⟩, ow7, hls, hsub, hps3, hpl3, hw6, rfl, hro6.same rfl rfl, drop_next hin, hof, fun r' hr' => ⟨_, _, hat3, low_turn hsub6 hsrt hof hrY (hsub6.subset hrc) hr'⟩⟩⟩
          · exfalso; rename (_ && _) = false => hc; simp at hc
          · exfalso; rename (_ && _) = false => hc; simp at hc
        · unfold Hold
          rintro m₁ nx₁ h tk ⟨ls, ⟨pa, po⟩, cl, u, ⟨st', atv', tk3, tm3, ta3, tn3, tw3, tl3, hi3, nc3, ns3⟩, ⟨w5, w4, w3, w2, w1, x5, x4, x3, x2, x1⟩, rfl, rfl, ⟨e5, e4, e3, e2, e1⟩, ow', hls, hsub, hp6, hpl, hw6, hn6, hro6, hin, hof, hlow⟩ F20 N20
          dsimp only at N20 e5 e4 e3 e2 e1 ow' hls hsub hw6 hn6 hro6 hin hof hlow
          k_steps
          exact ⟨ls, st'.cs, lA, cl, nc3, _, w5, w4, w3, w2, w1, x5, x4, x3, x2, x1, F20, tail_pick fun q hq => N20 q (.tail _ (.tail _ hq)), e5, e4, e3, e2, e1, hls, hsub, ⟨by k_extra "om"⟩, ⟨by k_extra "om"⟩, ⟨by k_extra "om"⟩, ⟨by k_extra "om"⟩, ⟨by k_extra "om"⟩, ⟨by k_extra "om"⟩⟩
      · rename StopFor => hS0; clear hS0
        unfold Hold
        with_reducible rename News _ _ _ _ => N9
        with_reducible rename Fr _ _ _ _ => F9
        have hJ : LoopInvZ D0 (W.listOf ws0.toArray 0) (fun _ m nx => RandJ w I X D0 (s1.heap.objs.size + 1 + 1 + 1 + 1 + 1) (s1.heap.objs.size + 1 + 1 + 1 + 1) (s1.heap.objs.size + 1 + 1 + 1) (s1.heap.objs.size + 1 + 1) (s1.heap.objs.size + 1) (W.listOf ws0.toArray 0) m nx) := ⟨⟩
        k_steps
        · exact fun i m nx h => h.mem
        · exact ⟨st.cs, _, _, _, ⟨st, atv, tk2, tm2, ta2, tn2, tw2, tl2, hi2, nc2, ns2⟩, ⟨cw5, cw4, cw3, cw2, cw1, none, none, none, none, none⟩, m_norm3 rfl rfl rfl, rfl, ⟨c5, c4, c3, c2, c1⟩, ow, rfl, by rw [hcs]; exact List.Sublist.refl _, ⟨qgLx, qgLd, ⟨by k_extra "om"⟩, qgLs, ⟨by k_extra "om"⟩, ⟨by k_extra "om"⟩, ⟨by k_extra "om"⟩, ⟨by k_extra "om"⟩, ⟨by k_extra "om"⟩, ⟨by k_extra "om"⟩, qgLX⟩⟩
        · unfold Hold
          rintro I' i v m₁ nx₁ h tk itO hi hne ⟨ls, lA, cl, u, ⟨st', atv', tk3, tm3, ta3, tn3, tw3, tl3, hi3, nc3, ns3⟩, ⟨w5, w4, w3, w2, w1, x5, x4, x3, x2, x1⟩, rfl, rfl, ⟨e5, e4, e3, e2, e1⟩, ow', hls, hsub, ap⟩ F10 N10
          dsimp only at N10 e5 e4 e3 e2 e1 ow' hls hsub
          obtain ⟨z, tz, hz, rfl⟩ := ints_at hI0 hi
          obtain ⟨ax, ad, ac, as_, a5, a4, a3, a2, a1, a0, aX⟩ := ap
          have i4 : NeA (s1.heap.objs.size + 1 + 1 + 1 + 1) I' := ⟨hne _ (.tail _ (.tail _ (.tail _ (.head _))))⟩
          have i3 : NeA (s1.heap.objs.size + 1 + 1 + 1) I' := ⟨hne _ (.tail _ (.tail _ (.tail _ (.tail _ (.head _)))))⟩
          have i2 : NeA (s1.heap.objs.size + 1 + 1) I' := ⟨hne _ (.tail _ (.tail _ (.tail _ (.tail _ (.tail _ (.head _))))))⟩
          have hS : StopFor := ⟨⟩
          k_steps
          rename StopFor => hS0; clear hS0
          unfold Hold
          k_sweep
          with_reducible rename News _ _ _ _ => N11
          with_reducible rename Fr _ _ _ _ => F11
          refine' m_pick13 (ks := pt ++ [(_, _), (_, _), (_, _)]) N11 (by rw [List.map_append]; exact .head _) (by simp [hptl]) ?_
          intro kb kt hkb
          have hkz : kb.size ≤ 1000 := kb_size hpt hkb
          have hS : StopFor := ⟨⟩
          k_steps
          rename StopFor => hS0; clear hS0
          unfold Hold
          with_reducible rename News _ _ _ _ => N12
          with_reducible rename Fr _ _ _ _ => F12
          have N13 := fun p hp => N12 p (.tail _ (.tail _ hp))
          change News _ _ _ _ at N13
          clear N12
          have hlz : ls.length ≤ 100 := ls_len hsub
          have hlsz : ∀ r ∈ ls, r.1.size ≤ 1000 := ls_size hsub
          have hJ : CompInv (fun i ys nx => nx = ledOf N13 ∧ ∃ gs : List (Bytes × Tok), ys = gs.map rv ∧ gs.map (·.1) = ((ls.take i).map (·.1)).filter (fun b => (cut2 b).toList == kb.toList)) := ⟨⟩
          dsimp only [ledOf] at hJ
          k_steps
          · unfold Hold; simp; omega
          · exact ⟨rfl, [], rfl, by simp⟩
          · unfold Hold
            rintro j v ys _ I2 oI C oC D2 m₂ h2 tk2 E2 hj hv ⟨rfl, gs, rfl, hgs⟩ hns hm₂ F14 N14 off ne3
            obtain ⟨⟨rb, rt⟩, hr, rfl⟩ : ∃ r, ls[j]? = some r ∧ rv r = v := by simpa using hv
            have hrz : rb.size ≤ 1000 := hlsz _ (List.mem_of_getElem? hr)
            dsimp only [rv] at hm₂
            have hgs' := fun (_ : Unit) => hgs
            clear hgs
            k_steps
            all_goals
              with_reducible rename Fr _ _ _ _ => mF
              with_reducible rename News _ _ _ _ => mN
              with_reducible rename (_ == _) = _ => hc
            · exact PyProof.Rows.LCg.CompEnd.intro mF mN _ (fun _ h => h) off (.inr ⟨_, .tail _ (.head _), rfl, _, rfl⟩) ⟨rfl, gs ++ [(rb, rt)], by rw [List.map_append]; rfl, filt_in (p := fun b => (cut2 b).toList == kb.toList) (hgs' ()) hr hc⟩
            · exact PyProof.Rows.LCg.CompEnd.intro mF mN _ (fun _ h => h) off (.inr ⟨_, .tail _ (.head _), rfl, _, rfl⟩) ⟨rfl, gs, rfl, filt_out (p := fun b => (cut2 b).toList == kb.toList) (hgs' ()) hr hc⟩
          · unfold Hold
            rintro gg ys _ ⟨rfl, gs, rfl, hgs⟩ D2 h2 tk2 F14 N14 off
            rename CompInv _ => z; clear z
            obtain ⟨p1, p2, p3, p4, p5, p6, p7, p8, p9, p10, p11, p12, pX⟩ := off
            have N14 : News _ _ _ ((D2, W.listOf (gs.map rv).toArray (gs.map rv).length) :: _) := N14
            have d3 : NeA (s1.heap.objs.size + 1 + 1 + 1) D2 := ⟨p6⟩
            have dx : NeA D2 I.x := ⟨fun e => p9 e.symm⟩
            have dd : NeA D2 I.dx := ⟨fun e => p10 e.symm⟩
            have dc : NeA D2 I.cA := ⟨fun e => p11 e.symm⟩
            have ds : NeA D2 I.sA := ⟨fun e => p12 e.symm⟩
            have ix : NeA I' I.x := ⟨fun e => hne _ (.tail _ (.tail _ (.tail _ (.tail _ (.tail _ (.tail _ (.tail _ (.head _)))))))) e.symm⟩
            have id' : NeA I' I.dx := ⟨fun e => hne _ (.tail _ (.tail _ (.tail _ (.tail _ (.tail _ (.tail _ (.tail _ (.tail _ (.head _))))))))) e.symm⟩
            have ic : NeA I' I.cA := ⟨fun e => hne _ (.tail _ (.tail _ (.tail _ (.tail _ (.tail _ (.tail _ (.tail _ (.tail _ (.tail _ (.head _)))))))))) e.symm⟩
            have is' : NeA I' I.sA := ⟨fun e => hne _ (.tail _ (.tail _ (.tail _ (.tail _ (.tail _ (.tail _ (.tail _ (.tail _ (.tail _ (.tail _ (.head _))))))))))) e.symm⟩
            clear p1 p2 p3 p4 p5 p6 p7 p8 p9 p10 p11 p12
            have hS : StopFor := ⟨⟩
            k_steps
            rename StopFor => hS0; clear hS0
            unfold Hold
            with_reducible rename News _ _ _ _ => N15
            with_reducible rename Fr _ _ _ _ => F15
            with_reducible rename (acc == _) = false => hsq
            have hsq' : (I.acc == Str.ofString "sequential") = false := by rw [eI3]; exact hsq
            have hgs : gs.map (·.1) = (ls.map (·.1)).filter (fun b => (cut2 b).toList == kb.toList) := by rw [hgs, List.length_map, List.take_length]
            rcases place_cases st'.cs kb with ⟨hz, hno⟩ | ⟨ii, hii, hz, bb, hbb, hit⟩
            · have hz' : delPlace I st' kb = -1 := by unfold delPlace; rw [hsq']; exact hz
              have hzz' : (-1 : Int) = -1 ∨ ∃ i : Nat, (-1 : Int) = (i : Int) ∧ i < st'.cs.length := .inl rfl
              rw [gone_none hsub (by rw [hls]; exact hno)] at hgs
              k_dflt (refine' useL (k := 9) ⟨⟩ ow' (m_delete (key := kb) (tk0 := kt) eI2 (z := -1) hz' hzz') (fun po => del_sub hzz' po) ?k1 F15 ?k3 N15 ?T ?kK ?h1 ?h2 ?h3 ?h4 ?hx ?kd ?ku True.intro ?hr ?_; (case kK => first | exact rfl | assumption); (case k1 => k_asm); (case k3 => k_asm); (case T => k_asm); (case h1 => k_mem); (case h2 => k_mem); (case h3 => k_mem); (case h4 => k_mem); (case hx => exact fun q hq => .tail _ (.tail _ (.tail _ (.tail _ (.tail _ (.tail _ (.tail _ (.tail _ (.tail _ (.tail _ (.tail _ (.tail _ (.tail _ hq))))))))))))); (case kd => first | ktr_room | decide); (case ku => first | ktr_units | decide); (case hr => k_extra "k_off"))
              intro v st2 atv2 h16 tk16 kf tmf taf tnf twf tlf hif ncf nsf F16 N16 G16 ow2 po
              obtain ⟨rfl, q1, q2⟩ := po
              obtain ⟨est, tv, ev⟩ := q1 rfl
              simp only [hsq', Bool.false_eq_true, if_false] at ev
              subst est ev
              dsimp only [List.take, List.cons_append, List.nil_append] at N16
              have hS : StopFor := ⟨⟩
              have hg0 : gs = [] := by simpa using hgs
              have hB : (ls.map (·.1)).filter (fun b => decide (b ∉ gs.map (·.1))) = st2.cs.map (·.1) := by rw [hg0, ← hls]; exact filt_all
              k_steps
              · exfalso; subst hg0; rename List.map rv [] ≠ [] => hc; exact hc rfl
              · exfalso; subst hg0; rename List.map rv [] ≠ [] => hc; exact hc rfl
              · rename StopFor => hS0; clear hS0
                unfold Hold
                with_reducible rename News _ _ _ _ => N17
                with_reducible rename Fr _ _ _ _ => F17
                have N18 := fun p hp => N17 p (.tail _ hp)
                change News _ _ _ _ at N18
                clear N17
                have hJ : CompInv (fun i ys nx => nx = ledOf N18 ∧ ∃ qs : List (Bytes × Tok), ys = qs.map rv ∧ qs.map (·.1) = ((ls.take i).map (·.1)).filter (fun b => decide (b ∉ gs.map (·.1)))) := ⟨⟩
                dsimp only [ledOf] at hJ
                k_steps
                · unfold Hold; simp; omega
                · exact ⟨rfl, [], rfl, by simp⟩
                · unfold Hold
                  rintro j v ys _ I2 oI C oC D3 m₂ h2 tk2 E2 hj hv ⟨rfl, qs, rfl, hqs⟩ hns hm₂ F18 N19 off ne3
                  obtain ⟨⟨rb, rt⟩, hr, rfl⟩ : ∃ r, ls[j]? = some r ∧ rv r = v := by simpa using hv
                  dsimp only [rv] at hm₂
                  have hqs' := fun (_ : Unit) => hqs
                  clear hqs
                  k_steps
                  all_goals
                    with_reducible rename Fr _ _ _ _ => mF
                    with_reducible rename News _ _ _ _ => mN
                  · exact PyProof.Rows.LCg.CompEnd.intro mF mN _ (fun _ h => h) off (.inr ⟨_, .tail _ (.tail _ (.head _)), rfl, _, rfl⟩) ⟨rfl, qs ++ [(rb, rt)], by rw [List.map_append]; rfl, filt_in (p := fun b => decide (b ∉ gs.map (·.1))) (hqs' ()) hr (decide_eq_true (by assumption))⟩
                  · exact PyProof.Rows.LCg.CompEnd.intro mF mN _ (fun _ h => h) off (.inr ⟨_, .tail _ (.tail _ (.head _)), rfl, _, rfl⟩) ⟨rfl, qs, rfl, filt_out (p := fun b => decide (b ∉ gs.map (·.1))) (hqs' ()) hr (decide_eq_false (by assumption))⟩
                · unfold Hold
                  rintro gg ys _ ⟨rfl, qs, rfl, hqs⟩ D3 h2 tk2 F18 N19 off
                  rename CompInv _ => z; clear z
                  rw [List.length_map, List.take_length, hB] at hqs
                  obtain ⟨r2, ri, rl, r0, r5, r4, r3, rr2, r1, rx, rd, rc, rs, rX⟩ := off
                  have N20 := loop_pick N19
                  k_steps
                  exact ⟨_, _, _, _, rfl, by assumption, N20, ne_of_addr2 hne ri rfl, ⟨qs, D3, _, _, ⟨_, _, _, _, _, _, _, _, _, _, _⟩, ⟨_, _, _, _, _, _, _, _, _, _⟩, m_norm3 rfl rfl rfl, rfl, ⟨e5, e4, by assumption, by assumption, e1⟩, ow2, hqs, by rw [hqs, ← hB]; exact List.filter_sublist.trans hsub, ⟨neA_symm rx, neA_symm rd, neA_symm rc, neA_symm rs, neA_symm r5, neA_symm r4, neA_symm r3, neA_symm rr2, neA_symm r1, neA_symm r0, off1_mem rX⟩⟩⟩
            · have hz' : delPlace I st' kb = (ii : Int) := by unfold delPlace; rw [hsq']; exact hz
              have hzz' : (ii : Int) = -1 ∨ ∃ i : Nat, (ii : Int) = (i : Int) ∧ i < st'.cs.length := .inr ⟨ii, rfl, hii⟩
              k_dflt (refine' useL (k := 9) ⟨⟩ ow' (m_delete (key := kb) (tk0 := kt) eI2 (z := (ii : Int)) hz' hzz') (fun po => del_sub hzz' po) ?k1 F15 ?k3 N15 ?T ?kK ?h1 ?h2 ?h3 ?h4 ?hx ?kd ?ku True.intro ?hr ?_; (case kK => first | exact rfl | assumption); (case k1 => k_asm); (case k3 => k_asm); (case T => k_asm); (case h1 => k_mem); (case h2 => k_mem); (case h3 => k_mem); (case h4 => k_mem); (case hx => exact fun q hq => .tail _ (.tail _ (.tail _ (.tail _ (.tail _ (.tail _ (.tail _ (.tail _ (.tail _ (.tail _ (.tail _ (.tail _ (.tail _ hq))))))))))))); (case kd => first | ktr_room | decide); (case ku => first | ktr_units | decide); (case hr => k_extra "k_off"))
              intro v st2 atv2 h16 tk16 kf tmf taf tnf twf tlf hif ncf nsf F16 N16 G16 ow2 po
              obtain ⟨rfl, q1, q2⟩ := po
              obtain ⟨est, tv, ev⟩ := q2 ii rfl
              subst est ev
              dsimp only [List.take, List.cons_append, List.nil_append] at N16
              have hS : StopFor := ⟨⟩
              have hgg := gone_some (B := ls.map (·.1)) hsub (by rw [hls]; exact hbb) hit
              have hg0 : gs.map rv ≠ [] := fun e => hgg.1 (by rw [← hgs]; have e2 : gs = [] := (by simpa using e); rw [e2]; rfl)
              have hB : (ls.map (·.1)).filter (fun b => decide (b ∉ gs.map (·.1))) = (st'.cs.eraseIdx ii).map (·.1) := by rw [hgs, hgg.2, hls, map_eraseIdx']
              k_steps
              · rename StopFor => hS0; clear hS0
                unfold Hold
                with_reducible rename News _ _ _ _ => N17
                with_reducible rename Fr _ _ _ _ => F17
                have N18 := fun p hp => N17 p (.tail _ hp)
                change News _ _ _ _ at N18
                clear N17
                have hJ : CompInv (fun i ys nx => nx = ledOf N18 ∧ ∃ qs : List (Bytes × Tok), ys = qs.map rv ∧ qs.map (·.1) = ((ls.take i).map (·.1)).filter (fun b => decide (b ∉ gs.map (·.1)))) := ⟨⟩
                dsimp only [ledOf] at hJ
                k_steps
                · unfold Hold; simp; omega
                · exact ⟨rfl, [], rfl, by simp⟩
                · unfold Hold
                  rintro j v ys _ I2 oI C oC D3 m₂ h2 tk2 E2 hj hv ⟨rfl, qs, rfl, hqs⟩ hns hm₂ F18 N19 off ne3
                  obtain ⟨⟨rb, rt⟩, hr, rfl⟩ : ∃ r, ls[j]? = some r ∧ rv r = v := by simpa using hv
                  dsimp only [rv] at hm₂
                  have hqs' := fun (_ : Unit) => hqs
                  clear hqs
                  k_steps
                  all_goals
                    with_reducible rename Fr _ _ _ _ => mF
                    with_reducible rename News _ _ _ _ => mN
                  · exact PyProof.Rows.LCg.CompEnd.intro mF mN _ (fun _ h => h) off (.inr ⟨_, .tail _ (.tail _ (.head _)), rfl, _, rfl⟩) ⟨rfl, qs ++ [(rb, rt)], by rw [List.map_append]; rfl, filt_in (p := fun b => decide (b ∉ gs.map (·.1))) (hqs' ()) hr (decide_eq_true (by assumption))⟩
                  · exact PyProof.Rows.LCg.CompEnd.intro mF mN _ (fun _ h => h) off (.inr ⟨_, .tail _ (.tail _ (.head _)), rfl, _, rfl⟩) ⟨rfl, qs, rfl, filt_out (p := fun b => decide (b ∉ gs.map (·.1))) (hqs' ()) hr (decide_eq_false (by assumption))⟩
                · unfold Hold
                  rintro gg ys _ ⟨rfl, qs, rfl, hqs⟩ D3 h2 tk2 F18 N19 off
                  rename CompInv _ => z; clear z
                  rw [List.length_map, List.take_length, hB] at hqs
                  obtain ⟨r2, ri, rl, r0, r5, r4, r3, rr2, r1, rx, rd, rc, rs, rX⟩ := off
                  have N20 := loop_pick N19
                  k_steps
                  exact ⟨_, _, _, _, rfl, by assumption, N20, ne_of_addr2 hne ri rfl, ⟨qs, D3, _, _, ⟨_, _, _, _, _, _, _, _, _, _, _⟩, ⟨_, _, _, _, _, _, _, _, _, _⟩, m_norm3 rfl rfl rfl, rfl, ⟨e5, e4, by assumption, by assumption, e1⟩, ow2, hqs, by rw [hqs, ← hB]; exact List.filter_sublist.trans hsub, ⟨neA_symm rx, neA_symm rd, neA_symm rc, neA_symm rs, neA_symm r5, neA_symm r4, neA_symm r3, neA_symm rr2, neA_symm r1, neA_symm r0, off1_mem rX⟩⟩⟩
        · unfold Hold
          rintro m₁ nx₁ h tk ⟨ls, lA, cl, u, ⟨st', atv', tk3, tm3, ta3, tn3, tw3, tl3, hi3, nc3, ns3⟩, ⟨w5, w4, w3, w2, w1, x5, x4, x3, x2, x1⟩, rfl, rfl, ⟨e5, e4, e3, e2, e1⟩, ow', hls, hsub, ap⟩ F10 N10
          dsimp only at N10 e5 e4 e3 e2 e1 ow' hls hsub
          k_steps
          exact ⟨ls, st'.cs, lA, cl, nc3, _, w5, w4, w3, w2, w1, x5, x4, x3, x2, x1, F10, tail_pick N10, e5, e4, e3, e2, e1, hls, hsub, ap.cA, ap.c5, ap.c4, ap.c3, ap.c2, ap.c1⟩
    case tail =>
      rintro h9 tk9 ⟨ls, cf, lA, cl, nc, u, w5, w4, w3, w2, w1, x5, x4, x3, x2, x1, F9, N9, e5, e4, e3, e2, e1, hls, hsub, ac, a5, a4, a3, a2, a1⟩
      have hcf : cf.map (·.1) = ls.map (·.1) := hls.symm
      obtain ⟨cA, hcA⟩ : ∃ cA, cA = I.cA := ⟨_, rfl⟩
      rw [← hcA] at F9 N9 ac qc5 qc4 qc3 qc2 qc1
      clear qgLx qgLd qgLs qgLX qgDx qgDd qgDs qgDX qg5x qg5d qg5s qg5X qg4x qg4d qg4s qg4X qg3x qg3d qg3s qg3X qg2x qg2d qg2s qg2X qg1x qg1d qg1s qg1X qc0 n1 n2 n3 n4 n5 n6
      have hS : StopFor := ⟨⟩
      k_steps
      rename StopFor => hS0; clear hS0
      unfold Hold
      with_reducible rename News _ _ _ _ => N6
      with_reducible rename Fr _ _ _ _ => F6
      have hsubf : (cf.map (·.1)).Sublist c0 := by rw [hcf]; exact hsub
      have hcz2 := ls_size hsubf
      have hcl2 : cf.length ≤ 50 := ls_len10 hsubf
      k_dflt (refine' m_make (.inr rfl) hcz2 hcl2 ?b1 F6 ?b3 ?bN ?bT ?bK ?bd ?bu ?_; (case bK => first | exact rfl | assumption); (case b1 => k_asm); (case b3 => k_asm); (case bT => k_asm); (case bd => first | ktr_room | decide); (case bu => first | ktr_units | decide); (case bN => exact fun p hp => N6 p (by rw [List.mem_singleton.mp hp]; k_mem)))
      intro J st2 atv2 h10 tk10 kf tmf taf tnf twf tlf hif ncf nsf X2 eJ1 eJ2 eJ3 md at2 F10 N10 ow2 kp fr frX
      obtain ⟨eJ4, hrows2, hwhich2, hnow2, hlast2⟩ := md
      subst eJ1 eJ4
      have N11 := News.join (A := [(_, _), (_, _), (_, _), (_, _), (_, _), (_, _)]) (pick6 N6) kp N10
      simp only [List.cons_append, List.nil_append] at N11
      obtain ⟨fr1, fr2, fr3⟩ := fr
      have n1 := ow2.1.n1
      have n2 := ow2.1.n2
      have n3 := ow2.1.n3
      have n4 := ow2.1.n4
      have n5 := ow2.1.n5
      have n6 := ow2.1.n6
      have gL := (N6 _ (.head _)).1
      have g5 := (N6 _ (.tail _ (.tail _ (.head _)))).1
      have g4 := (N6 _ (.tail _ (.tail _ (.tail _ (.head _))))).1
      have g3 := (N6 _ (.tail _ (.tail _ (.tail _ (.tail _ (.head _)))))).1
      have g2 := (N6 _ (.tail _ (.tail _ (.tail _ (.tail _ (.tail _ (.head _))))))).1
      have g1 := (N6 _ (.tail _ (.tail _ (.tail _ (.tail _ (.tail _ (.tail _ (.head _)))))))).1
      have qgLx := NeA.none gL fr1
      have qgLd := NeA.none gL fr2
      have qgLs := NeA.none gL fr3
      have qgLX := X_none frX gL
      dsimp only at qgLx qgLd qgLs qgLX
      have qg5x := NeA.none g5 fr1
      have qg5d := NeA.none g5 fr2
      have qg5s := NeA.none g5 fr3
      have qg5X := X_none frX g5
      dsimp only at qg5x qg5d qg5s qg5X
      have qg4x := NeA.none g4 fr1
      have qg4d := NeA.none g4 fr2
      have qg4s := NeA.none g4 fr3
      have qg4X := X_none frX g4
      dsimp only at qg4x qg4d qg4s qg4X
      have qg3x := NeA.none g3 fr1
      have qg3d := NeA.none g3 fr2
      have qg3s := NeA.none g3 fr3
      have qg3X := X_none frX g3
      dsimp only at qg3x qg3d qg3s qg3X
      have qg2x := NeA.none g2 fr1
      have qg2d := NeA.none g2 fr2
      have qg2s := NeA.none g2 fr3
      have qg2X := X_none frX g2
      dsimp only at qg2x qg2d qg2s qg2X
      have qg1x := NeA.none g1 fr1
      have qg1d := NeA.none g1 fr2
      have qg1s := NeA.none g1 fr3
      have qg1X := X_none frX g1
      dsimp only at qg1x qg1d qg1s qg1X
      clear gL g5 g4 g3 g2 g1 fr1 fr2 fr3 frX kp N6 F6 N10
      have hS : StopFor := ⟨⟩
      k_steps
      rename StopFor => hS0; clear hS0
      unfold Hold
      with_reducible rename News _ _ _ _ => N12
      with_reducible rename Fr _ _ _ _ => F12
      have hJ : LoopInvC 213 (tupOf (pt.map rv)) (fun _ m nx => TailJ w J X2 (s1.heap.objs.size + 1 + 1 + 1 + 1 + 1) (s1.heap.objs.size + 1 + 1 + 1 + 1) (s1.heap.objs.size + 1 + 1 + 1) (s1.heap.objs.size + 1 + 1) (s1.heap.objs.size + 1) lA (W.listOf (ls.map rv).toArray cl) st2.cs st2.rows m nx) := ⟨⟩
      k_steps
      · exact fun i m nx h' _ hb _ => hb _ _ ept
      · exact ⟨_, ⟨st2, _, kf, tmf, taf, tnf, twf, tlf, hif, ncf, nsf⟩, ⟨_, _, _, _, _, _, none, _, _, _⟩, m_norm2 rfl rfl, rfl, ⟨by assumption, by assumption, by assumption, by assumption, by assumption⟩, ow2, rfl, rfl⟩
      · unfold Hold
        rintro I' i v m₁ nx₁ h tk itO hi hne ⟨u1, ⟨st3, atv3, tk3, tm3, ta3, tn3, tw3, tl3, hi3, nc3, ns3⟩, ⟨v5, v4, v3, v2, v1, y5, y4, y3, y2, y1⟩, rfl, rfl, ⟨d5, d4, d3, d2, d1⟩, ow3, ecs, erows⟩ F13 N13
        dsimp only at N13 d5 d4 d3 d2 d1 ow3 ecs erows
        obtain ⟨⟨pb, pk⟩, hr, rfl⟩ : ∃ r, pt[i]? = some r ∧ rv r = v := by simpa using hi
        dsimp only [rv]
        have i1 : NeA (s1.heap.objs.size + 1) I' := ⟨hne _ (.tail _ (.tail _ (.tail _ (.tail _ (.tail _ (.head _))))))⟩
        have hpz : pb.size ≤ 1000 := pr_sizes _ (by rw [← hpt]; exact List.mem_map_of_mem (f := (·.1)) (List.mem_of_getElem? hr))
        have hlz : ls.length ≤ 100 := ls_len hsub
        have hlsz : ∀ r ∈ ls, r.1.size ≤ 1000 := ls_size hsub
        have hS : StopFor := ⟨⟩
        k_steps
        rename StopFor => hS0; clear hS0
        unfold Hold
        with_reducible rename News _ _ _ _ => N14
        with_reducible rename Fr _ _ _ _ => F14
        have hJ : CompInv (fun i ys nx => nx = ledOf N14 ∧ ∃ gs : List (Bytes × Tok), ys = gs.map rv ∧ gs.map (·.1) = ((ls.take i).map (·.1)).filter (fun b => (cut2 b).toList == pb.toList)) := ⟨⟩
        dsimp only [ledOf] at hJ
        k_steps
        · unfold Hold; simp; omega
        · exact ⟨rfl, [], rfl, by simp⟩
        · unfold Hold
          rintro j v ys _ I2 oI C oC D2 m₂ h2 tk2 E2 hj hv ⟨rfl, gs, rfl, hgs⟩ hns hm₂ F15 N15 off ne3
          obtain ⟨⟨rb, rt⟩, hr2, rfl⟩ : ∃ r, ls[j]? = some r ∧ rv r = v := by simpa using hv
          have hrz : rb.size ≤ 1000 := hlsz _ (List.mem_of_getElem? hr2)
          dsimp only [rv] at hm₂
          have hgs' := fun (_ : Unit) => hgs
          clear hgs
          k_steps
          all_goals
            with_reducible rename Fr _ _ _ _ => mF
            with_reducible rename News _ _ _ _ => mN
            with_reducible rename (_ == _) = _ => hc
          · exact PyProof.Rows.LCg.CompEnd.intro mF mN _ (fun _ h => h) off (.inr ⟨_, .tail _ (.head _), rfl, _, rfl⟩) ⟨rfl, gs ++ [(rb, rt)], by rw [List.map_append]; rfl, filt_in (p := fun b => (cut2 b).toList == pb.toList) (hgs' ()) hr2 hc⟩
          · exact PyProof.Rows.LCg.CompEnd.intro mF mN _ (fun _ h => h) off (.inr ⟨_, .tail _ (.head _), rfl, _, rfl⟩) ⟨rfl, gs, rfl, filt_out (p := fun b => (cut2 b).toList == pb.toList) (hgs' ()) hr2 hc⟩
        · unfold Hold
          rintro gg ys _ ⟨rfl, gs, rfl, hgs⟩ D2 h2 tk2 F15 N15 off
          rename CompInv _ => z; clear z
          have hgs : gs.map (·.1) = (st3.cs.map (·.1)).filter (fun b => (cut2 b).toList == pb.toList) := by rw [hgs, List.length_map, List.take_length, ecs, hls]
          obtain ⟨p1, p2, p5, p4, p3, p22, p11, px, pd, pc, ps, pX⟩ := off
          have N15 : News _ _ _ ((D2, W.listOf (gs.map rv).toArray (gs.map rv).length) :: _) := N15
          have dx := neA_symm px
          have dd := neA_symm pd
          have dc := neA_symm pc
          have ds := neA_symm ps
          have ix := neA_symm (hne _ (.tail _ (.tail _ (.tail _ (.tail _ (.tail _ (.tail _ (.head _))))))))
          have id' := neA_symm (hne _ (.tail _ (.tail _ (.tail _ (.tail _ (.tail _ (.tail _ (.tail _ (.head _)))))))))
          have ic := neA_symm (hne _ (.tail _ (.tail _ (.tail _ (.tail _ (.tail _ (.tail _ (.tail _ (.tail _ (.head _))))))))))
          have is' := neA_symm (hne _ (.tail _ (.tail _ (.tail _ (.tail _ (.tail _ (.tail _ (.tail _ (.tail _ (.tail _ (.head _)))))))))))
          dsimp only at dx dd dc ds ix id' ic is'
          clear p1 p2 p5 p4 p3 p22 p11 px pd pc ps
          have hS : StopFor := ⟨⟩
          k_steps
          rename StopFor => hS0; clear hS0
          unfold Hold
          with_reducible rename News _ _ _ _ => N16
          with_reducible rename Fr _ _ _ _ => F16
          have h60 : st3.cs.length < 60 := by rw [ecs]; omega
          k_dflt (refine' useL (k := 8) ⟨⟩ ow3 (m_read_at0 (key := pb) (t1 := pk) h60 eJ3 (.inr eJ2)) (fun po => ra_sub po) ?r1 F16 ?r3 N16 ?rT ?rK ?rh1 ?rh2 ?rh3 ?rh4 ?rx ?rd ?ru True.intro ?rr ?_; (case rK => first | exact rfl | assumption); (case r1 => k_asm); (case r3 => k_asm); (case rT => k_asm); (case rh1 => k_mem); (case rh2 => k_mem); (case rh3 => k_mem); (case rh4 => k_mem); (case rx => exact fun q hq => .tail _ (.tail _ (.tail _ (.tail _ (.tail _ (.tail _ (.tail _ (.tail _ (.tail _ (.tail _ (.tail _ (.tail _ hq)))))))))))); (case rd => first | ktr_room | decide); (case ru => first | ktr_units | decide); (case rr => k_extra "k_off"))
          intro v st4 atv4 h16 tk16 kg tmg tag tng twg tlg hig ncg nsg F17 N17 G17 ow4 po
          dsimp only [List.take, List.cons_append, List.nil_append] at N17
          obtain ⟨us, sus, ⟨t, ti, hfe, hti, htp, ⟨rA, rt1, rt2, rfl, eT, nT⟩, est⟩ | ⟨hno, ⟨rA, rt1, rt2, rfl, eT, nT⟩, est, _⟩⟩ := po
          · have N18 := led_grow F16 N17 eT nT
            subst est
            have hf0 := prime_found (by rw [ecs]; exact hsubf) sus hfe htp hgs
            rw [statOf0] at N18
            have hg0 : gs.map rv ≠ [] := fun e => by
              have e2 : gs = [] := by simpa using e
              rw [e2] at hf0; simp at hf0
            have hS : StopFor := ⟨⟩
            k_steps
            rename StopFor => hS0; clear hS0
            unfold Hold
            k_sweep
            with_reducible rename News _ _ _ _ => N19
            with_reducible rename Fr _ _ _ _ => F19
            refine' m_first N19 (by k_mem) hf0 ?_
            intro tf
            have hS : StopFor := ⟨⟩
            k_steps
            with_reducible rename Fr _ _ _ _ => mF
            with_reducible rename News _ _ _ _ => mN
            exact ⟨_, _, _, _, rfl, mF, (fun p hp => mN p (.tail _ (.tail _ (.tail _ (.tail _ hp))))), ne_of_addr hne rfl, ⟨_, ⟨_, _, kg, tmg, tag, tng, twg, tlg, hig, ncg, nsg⟩, ⟨_, _, _, _, _, _, none, _, _, _⟩, m_norm2 rfl rfl, rfl, ⟨d5, d4, d3, d2, by assumption⟩, ow4, ecs, erows⟩⟩
          · have N18 := led_grow F16 N17 eT nT
            subst est
            have hf0 := prime_none (by rw [ecs]; exact hsubf) sus hno hgs
            have hg0 : gs = [] := by simpa using hf0
            have hS : StopFor := ⟨⟩
            subst hg0
            k_steps
            with_reducible rename Fr _ _ _ _ => mF
            with_reducible rename News _ _ _ _ => mN
            exact ⟨_, _, _, _, rfl, mF, (fun p hp => mN p (.tail _ (.tail _ (.tail _ (.tail _ hp))))), ne_of_addr hne rfl, ⟨_, ⟨_, _, kg, tmg, tag, tng, twg, tlg, hig, ncg, nsg⟩, ⟨_, _, _, _, _, _, none, _, _, _⟩, m_norm2 rfl rfl, rfl, ⟨d5, d4, d3, d2, by assumption⟩, ow4, ecs, erows⟩⟩
      · unfold Hold
        rintro m₁ nx₁ h tk ⟨u1, ⟨st3, atv3, tk3, tm3, ta3, tn3, tw3, tl3, hi3, nc3, ns3⟩, ⟨v5, v4, v3, v2, v1, y5, y4, y3, y2, y1⟩, rfl, rfl, ⟨d5, d4, d3, d2, d1⟩, ow3, ecs, erows⟩ F13 N13
        dsimp only at N13 d5 d4 d3 d2 d1 ow3 ecs erows
        rename LoopInvC _ _ _ => z; clear z
        change News s1.heap s1.heap.objs.size _ _ at N13
        change Fr s1.heap s1.heap.objs.size _ _ at F13
        have hS : StopFor := ⟨⟩
        k_steps
        rename StopFor => hS0; clear hS0
        unfold Hold
        have hI : StopIter := ⟨⟩
        k_steps
        rename StopIter => hS0; clear hS0
        unfold Hold
        with_reducible rename News _ _ _ _ => N20
        with_reducible rename Fr _ _ _ _ => F20
        rename_i T hT0 l1T
        have hJ : LoopInvC T (tupOf [Value.bytes #[120] tk, Value.bytes #[121] (tk + 1), Value.bytes #[122] (tk + 1 + 1)]) (fun _ m nx => ∃ nx', nx = (T, (tupOf [Value.bytes #[120] tk, Value.bytes #[121] (tk + 1), Value.bytes #[122] (tk + 1 + 1)])) :: nx' ∧ TailJ w J X2 (s1.heap.objs.size + 1 + 1 + 1 + 1 + 1) (s1.heap.objs.size + 1 + 1 + 1 + 1) (s1.heap.objs.size + 1 + 1 + 1) (s1.heap.objs.size + 1 + 1) (s1.heap.objs.size + 1) lA (W.listOf (ls.map rv).toArray cl) st2.cs st2.rows m nx') := ⟨⟩
        k_steps
        · rintro i m nx h' ⟨nx', rfl, _⟩ _ N; exact (N _ (.head _)).1
        · exact ⟨_, rfl, ⟨u1, ⟨st3, atv3, tk3, tm3, ta3, tn3, tw3, tl3, hi3, nc3, ns3⟩, ⟨v5, v4, v3, v2, v1, y5, none, y3, y2, y1⟩, rfl, rfl, ⟨d5, d4, d3, d2, d1⟩, ow3, ecs, erows⟩⟩
        · unfold Hold
          clear d5 d4 d3 d2 d1 ow3 ecs erows
          rintro I' i v m₁ nx₁ h tk' itO hi hne ⟨_, rfl, ⟨u4, ⟨st5, atv5, tk5, tm5, ta5, tn5, tw5, tl5, hi5, nc5, ns5⟩, ⟨v5, v4, v3, v2, v1, y5, y4, y3, y2, y1⟩, rfl, rfl, ⟨d5, d4, d3, d2, d1⟩, ow5, ecs, erows⟩⟩ F21 N21
          dsimp only at N21 d5 d4 d3 d2 d1 ow5 ecs erows
          obtain ⟨mb, mt, hmz, rfl⟩ := mark_of hi
          have i5 : NeA (s1.heap.objs.size + 1 + 1 + 1 + 1 + 1) I' := ⟨hne _ (.tail _ (.tail _ (.head _)))⟩
          have hlz : ls.length ≤ 100 := ls_len hsub
          have hlsz : ∀ r ∈ ls, r.1.size ≤ 1000 := ls_size hsub
          have hS : StopFor := ⟨⟩
          k_steps
          rename StopFor => hS0; clear hS0
          unfold Hold
          with_reducible rename News _ _ _ _ => N22
          with_reducible rename Fr _ _ _ _ => F22
          have hJ : CompInv (fun i ys nx => nx = ledOf N22 ∧ ∃ gs : List (Bytes × Tok), ys = gs.map rv ∧ gs.map (·.1) = ((ls.take i).map (·.1)).filter (fun b => (cut3 b).toList == mb.toList)) := ⟨⟩
          dsimp only [ledOf] at hJ
          k_steps
          · unfold Hold; simp; omega
          · exact ⟨rfl, [], rfl, by simp⟩
          · unfold Hold
            rintro j v ys _ I2 oI C oC D2 m₂ h2 tk2 E2 hj hv ⟨rfl, gs, rfl, hgs⟩ hns hm₂ F15 N15 off ne3
            obtain ⟨⟨rb, rt⟩, hr2, rfl⟩ : ∃ r, ls[j]? = some r ∧ rv r = v := by simpa using hv
            have hrz : rb.size ≤ 1000 := hlsz _ (List.mem_of_getElem? hr2)
            dsimp only [rv] at hm₂
            have hgs' := fun (_ : Unit) => hgs
            clear hgs
            k_steps
            all_goals
              with_reducible rename Fr _ _ _ _ => mF
              with_reducible rename News _ _ _ _ => mN
              with_reducible rename (_ == _) = _ => hc
            · exact PyProof.Rows.LCg.CompEnd.intro mF mN _ (fun _ h => h) off (.inr ⟨_, .tail _ (.tail _ (.head _)), rfl, _, rfl⟩) ⟨rfl, gs ++ [(rb, rt)], by rw [List.map_append]; rfl, filt_in (p := fun b => (cut3 b).toList == mb.toList) (hgs' ()) hr2 hc⟩
            · exact PyProof.Rows.LCg.CompEnd.intro mF mN _ (fun _ h => h) off (.inr ⟨_, .tail _ (.tail _ (.head _)), rfl, _, rfl⟩) ⟨rfl, gs, rfl, filt_out (p := fun b => (cut3 b).toList == mb.toList) (hgs' ()) hr2 hc⟩
          · unfold Hold
            rintro gg ys _ ⟨rfl, gs, rfl, hgs⟩ D2 h2 tk2 F15 N15 off
            rename CompInv _ => z; clear z
            have hgs : gs.map (·.1) = (st5.cs.map (·.1)).filter (fun b => (cut3 b).toList == mb.toList) := by rw [hgs, List.length_map, List.take_length, ecs, hls]
            obtain ⟨p1, pT, p2, p5, p4, p3, p22, p11, px, pd, pc, ps, pX⟩ := off
            have N15 : News _ _ _ ((D2, W.listOf (gs.map rv).toArray (gs.map rv).length) :: _) := N15
            have hgl : gs.length ≤ 100 := by
              have := congrArg List.length hgs
              rw [List.length_map] at this
              rw [this]
              exact Nat.le_trans (List.length_filter_le _ _) (by rw [List.length_map, ecs]; omega)
            have dx := neA_symm px
            have dd := neA_symm pd
            have dc := neA_symm pc
            have ds := neA_symm ps
            have ix := neA_symm (hne _ (.tail _ (.tail _ (.tail _ (.tail _ (.tail _ (.tail _ (.tail _ (.head _)))))))))
            have id' := neA_symm (hne _ (.tail _ (.tail _ (.tail _ (.tail _ (.tail _ (.tail _ (.tail _ (.tail _ (.head _))))))))))
            have ic := neA_symm (hne _ (.tail _ (.tail _ (.tail _ (.tail _ (.tail _ (.tail _ (.tail _ (.tail _ (.tail _ (.head _)))))))))))
            have is' := neA_symm (hne _ (.tail _ (.tail _ (.tail _ (.tail _ (.tail _ (.tail _ (.tail _ (.tail _ (.tail _ (.tail _ (.head _))))))))))))
            dsimp only at dx dd dc ds ix id' ic is'
            clear p1 pT p2 p5 p4 p3 p22 p11 px pd pc ps
            have hS : StopFor := ⟨⟩
            k_steps
            · rename List.map rv gs = [] => hc0
              have hg0 : gs = [] := by simpa using hc0
              rename StopFor => hS0; clear hS0
              unfold Hold
              with_reducible rename News _ _ _ _ => N16
              with_reducible rename Fr _ _ _ _ => F16
              have h60 : st5.cs.length < 60 := by rw [ecs]; omega
              have hsub5 : (st5.cs.map (·.1)).Sublist c0 := by rw [ecs]; exact hsubf
              have hr5 : st5.rows.map (·.v) = (List.range st5.cs.length).map fun (i : Nat) => [(i : Int), (i : Int)] := by rw [erows, ecs]; exact hrows2
              refine useL (k := 11) ⟨⟩ ow5 (m_read_at1 (key := mb) (t1 := mt) h60 eJ3 (.inr eJ2)) (fun po => ra_sub po) (by k_asm) F16 (by k_asm) N16 (by k_asm) (by first | exact rfl | assumption) (by k_mem) (by k_mem) (by k_mem) (by k_mem) (fun q hq => .tail _ (.tail _ (.tail _ (.tail _ (.tail _ (.tail _ (.tail _ (.tail _ (.tail _ (.tail _ (.tail _ (.tail _ (.tail _ (.tail _ (.tail _ (hq)))))))))))))))) (by first | ktr_room | decide) (by first | ktr_units | decide) True.intro (by k_extra "k_off") ?_
              intro v st4 atv4 h16 tk16 kg tmg tag tng twg tlg hig ncg nsg F17 N17 G17 ow4 po
              dsimp only [List.take, List.cons_append, List.nil_append] at N17
              obtain ⟨us, sus, ⟨t, ti, hfe, hti, htp, ⟨rA, rt1, rt2, rfl, eT, nT⟩, est⟩ | ⟨hno, ⟨rA, rt1, rt2, rfl, eT, nT⟩, est, _⟩⟩ := po
              · exfalso
                have := mark_found hsub5 hr5 sus hfe htp hgs
                rw [hg0] at this; simp at this
              · have N18 := led_grow F16 N17 eT nT
                subst est
                have hS : StopFor := ⟨⟩
                k_steps
                with_reducible rename Fr _ _ _ _ => mF
                with_reducible rename News _ _ _ _ => mN
                exact ⟨_, _, _, _, rfl, mF, (fun p hp => mN p (.tail _ (.tail _ (.tail _ (.tail _ hp))))), ne_of_addr hne rfl, ⟨_, rfl, ⟨_, ⟨_, _, kg, tmg, tag, tng, twg, tlg, hig, ncg, nsg⟩, ⟨_, _, _, _, _, _, none, _, _, _⟩, m_norm2 rfl rfl, rfl, ⟨by assumption, d4, d3, d2, d1⟩, ow4, ecs, erows⟩⟩⟩
            · rename ¬ (List.map rv gs = []) => hne0
              rename (1 : Int) < _ => hlt
              rename StopFor => hS0; clear hS0
              unfold Hold
              k_sweep
              with_reducible rename News _ _ _ _ => N19
              with_reducible rename Fr _ _ _ _ => F19
              obtain ⟨b0, hb0⟩ : ∃ b, (gs.map (·.1))[0]? = some b := by
                cases gs with
                | nil => exact absurd rfl hne0
                | cons r gs => exact ⟨_, rfl⟩
              refine m_first N19 (by k_mem) hb0 ?_
              intro tf
              have hS : StopFor := ⟨⟩
              k_steps
              rename StopFor => hS0; clear hS0
              unfold Hold
              with_reducible rename News _ _ _ _ => N16
              with_reducible rename Fr _ _ _ _ => F16
              have h60 : st5.cs.length < 60 := by rw [ecs]; omega
              have hsub5 : (st5.cs.map (·.1)).Sublist c0 := by rw [ecs]; exact hsubf
              have hr5 : st5.rows.map (·.v) = (List.range st5.cs.length).map fun (i : Nat) => [(i : Int), (i : Int)] := by rw [erows, ecs]; exact hrows2
              refine useL (k := 11) ⟨⟩ ow5 (m_read_at1 (key := mb) (t1 := mt) h60 eJ3 (.inr eJ2)) (fun po => ra_sub po) (by k_asm) F16 (by k_asm) N16 (by k_asm) (by first | exact rfl | assumption) (by k_mem) (by k_mem) (by k_mem) (by k_mem) (fun q hq => .tail _ (.tail _ (.tail _ (.tail _ (.tail _ (.tail _ (.tail _ (.tail _ (.tail _ (.tail _ (.tail _ (.tail _ (.tail _ (.tail _ (.tail _ (hq)))))))))))))))) (by first | ktr_room | decide) (by first | ktr_units | decide) True.intro (by k_extra "k_off") ?_
              intro v st4 atv4 h16 tk16 kg tmg tag tng twg tlg hig ncg nsg F17 N17 G17 ow4 po
              dsimp only [List.take, List.cons_append, List.nil_append] at N17
              obtain ⟨us, sus, ⟨t, ti, hfe, hti, htp, ⟨rA, rt1, rt2, rfl, eT, nT⟩, est⟩ | ⟨hno, ⟨rA, rt1, rt2, rfl, eT, nT⟩, est, _⟩⟩ := po
              · have N18 := led_grow F16 N17 eT nT
                have hmf := mark_found hsub5 hr5 sus hfe htp hgs
                have hms := mark_stat hsub5 hr5 sus hfe htp hgs
                have hbe : (st5.cs.getD ti default).1 = b0 := by rw [hb0] at hmf; exact (Option.some.inj hmf).symm
                rw [hms, hbe] at N18
                rw [if_pos (by rw [List.length_map]; omega)] at N18
                subst est
                have hS : StopFor := ⟨⟩
                k_steps
                with_reducible rename Fr _ _ _ _ => mF
                with_reducible rename News _ _ _ _ => mN
                exact ⟨_, _, _, _, rfl, mF, (fun p hp => mN p (.tail _ (.tail _ (.tail _ (.tail _ hp))))), ne_of_addr hne rfl, ⟨_, rfl, ⟨_, ⟨_, _, kg, tmg, tag, tng, twg, tlg, hig, ncg, nsg⟩, ⟨_, _, _, _, _, _, none, _, _, _⟩, m_norm2 rfl rfl, rfl, ⟨by assumption, d4, d3, d2, d1⟩, ow4, ecs, erows⟩⟩⟩
              · exfalso
                have := mark_none hsub5 sus hno hgs
                rw [this] at hb0; simp at hb0
            · rename ¬ (List.map rv gs = []) => hne0
              rename ¬ ((1 : Int) < _) => hlt
              rename StopFor => hS0; clear hS0
              unfold Hold
              k_sweep
              with_reducible rename News _ _ _ _ => N19
              with_reducible rename Fr _ _ _ _ => F19
              obtain ⟨b0, hb0⟩ : ∃ b, (gs.map (·.1))[0]? = some b := by
                cases gs with
                | nil => exact absurd rfl hne0
                | cons r gs => exact ⟨_, rfl⟩
              refine m_first N19 (by k_mem) hb0 ?_
              intro tf
              have hS : StopFor := ⟨⟩
              k_steps
              rename StopFor => hS0; clear hS0
              unfold Hold
              with_reducible rename News _ _ _ _ => N16
              with_reducible rename Fr _ _ _ _ => F16
              have h60 : st5.cs.length < 60 := by rw [ecs]; omega
              have hsub5 : (st5.cs.map (·.1)).Sublist c0 := by rw [ecs]; exact hsubf
              have hr5 : st5.rows.map (·.v) = (List.range st5.cs.length).map fun (i : Nat) => [(i : Int), (i : Int)] := by rw [erows, ecs]; exact hrows2
              refine useL (k := 11) ⟨⟩ ow5 (m_read_at1 (key := mb) (t1 := mt) h60 eJ3 (.inr eJ2)) (fun po => ra_sub po) (by k_asm) F16 (by k_asm) N16 (by k_asm) (by first | exact rfl | assumption) (by k_mem) (by k_mem) (by k_mem) (by k_mem) (fun q hq => .tail _ (.tail _ (.tail _ (.tail _ (.tail _ (.tail _ (.tail _ (.tail _ (.tail _ (.tail _ (.tail _ (.tail _ (.tail _ (.tail _ (.tail _ (hq)))))))))))))))) (by first | ktr_room | decide) (by first | ktr_units | decide) True.intro (by k_extra "k_off") ?_
              intro v st4 atv4 h16 tk16 kg tmg tag tng twg tlg hig ncg nsg F17 N17 G17 ow4 po
              dsimp only [List.take, List.cons_append, List.nil_append] at N17
              obtain ⟨us, sus, ⟨t, ti, hfe, hti, htp, ⟨rA, rt1, rt2, rfl, eT, nT⟩, est⟩ | ⟨hno, ⟨rA, rt1, rt2, rfl, eT, nT⟩, est, _⟩⟩ := po
              · have N18 := led_grow F16 N17 eT nT
                have hmf := mark_found hsub5 hr5 sus hfe htp hgs
                have hms := mark_stat hsub5 hr5 sus hfe htp hgs
                have hbe : (st5.cs.getD ti default).1 = b0 := by rw [hb0] at hmf; exact (Option.some.inj hmf).symm
                rw [hms, hbe] at N18
                rw [if_neg (by rw [List.length_map]; omega)] at N18
                subst est
                have hS : StopFor := ⟨⟩
                k_steps
                with_reducible rename Fr _ _ _ _ => mF
                with_reducible rename News _ _ _ _ => mN
                exact ⟨_, _, _, _, rfl, mF, (fun p hp => mN p (.tail _ (.tail _ (.tail _ (.tail _ hp))))), ne_of_addr hne rfl, ⟨_, rfl, ⟨_, ⟨_, _, kg, tmg, tag, tng, twg, tlg, hig, ncg, nsg⟩, ⟨_, _, _, _, _, _, none, _, _, _⟩, m_norm2 rfl rfl, rfl, ⟨by assumption, d4, d3, d2, d1⟩, ow4, ecs, erows⟩⟩⟩
              · exfalso
                have := mark_none hsub5 sus hno hgs
                rw [this] at hb0; simp at hb0
        · unfold Hold
          rintro m₁ nx₁ h tk' ⟨_, rfl, ⟨u4, ⟨st5, atv5, tk5, tm5, ta5, tn5, tw5, tl5, hi5, nc5, ns5⟩, ⟨v5, v4, v3, v2, v1, y5, y4, y3, y2, y1⟩, rfl, rfl, ⟨d5, d4, d3, d2, d1⟩, ow5, ecs, erows⟩⟩ F21 N21
          dsimp only at N21 d5 d4 d3 d2 d1 ow5 ecs erows
          rename LoopInvC _ _ _ => z; clear z
          have N22 := fun p hp => N21 p (.tail _ hp)
          change News s1.heap s1.heap.objs.size _ _ at N22
          change Fr s1.heap s1.heap.objs.size _ _ at F21
          clear N21
          have hS : StopFor := ⟨⟩
          k_steps
          rename StopFor => hS0; clear hS0
          unfold Hold
          with_reducible rename News _ _ _ _ => N23
          with_reducible rename Fr _ _ _ _ => F23
          have h60 : st5.cs.length < 60 := by rw [ecs]; omega
          have hsub5 : (st5.cs.map (·.1)).Sublist c0 := by rw [ecs]; exact hsubf
          refine useL (k := 6) ⟨⟩ ow5 (m_start (wh := 0) (.inl rfl) h60 (.inl eJ3) (.inr eJ2)) (fun po => st_sub po) (by k_asm) F23 (by k_asm) N23 (by k_asm) (by first | exact rfl | assumption) (by k_mem) (by k_mem) (by k_mem) (by k_mem) (fun q hq => .tail _ (.tail _ (.tail _ (.tail _ (.tail _ (.tail _ (.tail _ (.tail _ (.tail _ (.tail _ hq)))))))))) (by first | ktr_room | decide) (by first | ktr_units | decide) True.intro (by k_extra "k_off") ?_
          intro v st4 atv4 h16 tk16 kg tmg tag tng twg tlg hig ncg nsg F17 N17 G17 ow4 po
          dsimp only [List.take, List.cons_append, List.nil_append] at N17
          obtain ⟨us, sus, po⟩ := po
          obtain ⟨⟨xs, ts, rfl⟩, ecs4, erows4, p, N24, hpo, hlow⟩ := start_led F17 N17 (.tail _ (.head _)) (offN qg5x qg5d ⟨by first | exact qc5.ne | omega⟩ qg5s) hsub5 sus po
          have hY := recs_sorted hsub5 sus
          have hYp := recs_perm sus
          generalize us.map (recB st5) = Y at hY hYp hlow
          rw [ecs] at hYp ecs4
          rw [erows] at erows4
          clear po sus N17
          have hYl : Y.length = ls.length := by have := hYp.length_eq; rw [hcf] at this; simpa using this
          have hlz : ls.length ≤ 100 := ls_len hsub
          have hJ : CompInv (fun i ys nx => ReadJ w J X2 (lA, (W.listOf (ls.map rv).toArray cl)) (s1.heap.objs.size + 1 + 1 + 1 + 1 + 1, v5) (s1.heap.objs.size + 1 + 1 + 1 + 1, v4) (s1.heap.objs.size + 1 + 1 + 1, v3) (s1.heap.objs.size + 1 + 1, v2) (s1.heap.objs.size + 1, v1) st2.cs st2.rows Y s1.heap i ys nx) := ⟨⟩
          have hS : StopFor := ⟨⟩
          k_steps
          · unfold Hold; simp; omega
          · exact ⟨[], p, st4, atv4, kg, tmg, tag, tng, twg, tlg, hig, ncg, nsg, rfl, rfl, rfl, ow4, ecs4, erows4, hpo, hlow⟩
          · unfold Hold
            rintro j v ys _ I2 oI C oC D2 m₂ h2 tk2 E2 hj hv ⟨qs, ⟨pa, po⟩, st6, atv6, tk6, tm6, ta6, tn6, tw6, tl6, hi6, nc6, ns6, rfl, hqs, rfl, ow6, ecs6, erows6, hp6, hlow6⟩ hns hm₂ F25 N25 off ne3
            clear hv
            have hj2 : j < Y.length := by rw [hYl]; simpa using hj
            have hr : Y[j]? = some Y[j] := List.getElem?_eq_getElem hj2
            generalize Y[j] = r at hr
            obtain ⟨hw6, hn6, ab, ai, hat, hlo⟩ := hlow6 r hr
            have hsub6 : (st6.cs.map (·.1)).Sublist c0 := by rw [ecs6]; exact hsubf
            have hm6 : ∀ b ∈ st6.cs.map (·.1), b ∈ Y := fun b hb => hYp.mem_iff.mpr (by rw [← ecs6]; exact hb)
            have hr6 : r ∈ st6.cs.map (·.1) := by rw [ecs6]; exact hYp.mem_iff.mp (List.mem_of_getElem? hr)
            rename StopFor => hS0; clear hS0
            have hS : StopFor := ⟨⟩
            have hCM : CallM0 := ⟨⟩
            k_steps
            rename StopFor => hS0; clear hS0
            rename CallM0 => hS0; clear hS0
            unfold Hold
            with_reducible rename News _ _ _ _ => N26
            with_reducible rename Fr _ _ _ _ => F26
            have h606 : st6.cs.length < 60 := by rw [ecs6]; omega
            obtain ⟨pp, pl, p5, p4, p3, p22, p11, ⟨pxI, pxC, pxD⟩, ⟨pdI, pdC, pdD⟩, ⟨pcI, pcC, pcD⟩, ⟨psI, psC, psD⟩, pX⟩ := id off
            have aI1 := neA_symm pxI
            have aI2 := neA_symm pdI
            have aI3 := neA_symm pcI
            have aI4 := neA_symm psI
            have aC1 := neA_symm pxC
            have aC2 := neA_symm pdC
            have aC3 := neA_symm pcC
            have aC4 := neA_symm psC
            have aD1 := neA_symm pxD
            have aD2 := neA_symm pdD
            have aD3 := neA_symm pcD
            have aD4 := neA_symm psD
            dsimp only at aI1 aI2 aI3 aI4 aC1 aC2 aC3 aC4 aD1 aD2 aD3 aD4
            clear pp pl p5 p4 p3 p22 p11 pxI pxC pxD pdI pdC pdD pcI pcC pcD psI psC psD pX
            refine useL (k := 10) ⟨⟩ ow6 (m_read_next (ab := ab) (ai := ai) h606 (.inl eJ3) (.inr eJ2)) (fun po => rn_sub po) (by k_asm) F26 (by k_asm) N26 (by k_asm) (by first | exact rfl | assumption) (by k_mem) (by k_mem) (by k_mem) (by k_mem) (fun q hq => .tail _ (.tail _ (.tail _ (.tail _ (.tail _ (.tail _ (.tail _ (.tail _ (.tail _ (.tail _ (.tail _ (.tail _ (.tail _ (.tail _ hq)))))))))))))) (by first | ktr_room | decide) (by first | ktr_units | decide) (hat.is F26 N26 (.tail _ (.tail _ (.tail _ (.head _))))) (by dsimp only [List.take, OffAll]; refine ⟨?_, ?_, ?_, hp6, ?_⟩ <;> k_extra "k_off") ?_
            intro v st7 atv7 h17 tk17 kx tmx tax tnx twx tlx hix ncx nsx F27 N27 G27 ow7 po
            dsimp only [List.take, List.cons_append, List.nil_append] at N27
            obtain ⟨i0, hi0, hg0, ⟨rA, rt1, rt2, rfl, eT, nT⟩, rfl, A⟩ := rn_here (I := J) hsub6 hr6 hlo hw6 hn6 po
            clear po
            have N28 := led_grow F26 N27 eT nT
            obtain ⟨p3, N29, hat3, hp3⟩ := at_new F27 N28 (.tail _ (.tail _ (.tail _ (.tail _ (.tail _ (.tail _ (.head _))))))) (offN qg5x qg5d ⟨by first | exact qc5.ne | omega⟩ qg5s) A
            clear N27 N28 A
            have hS : StopFor := ⟨⟩
            k_steps
            with_reducible rename News _ _ _ _ => mN
            with_reducible rename Fr _ _ _ _ => mF
            exact PyProof.Rows.LCg.CompEnd.intro mF (read_pick mN) _ (fun _ h => h) (off3_next off rfl (off_new N26 off (.tail _ (.tail _ (.head _))) hp3)) (.inr ⟨_, .tail _ (.head _), rfl, _, rfl⟩) ⟨qs ++ [(r, _)], p3, _, _, _, _, _, _, _, _, _, _, _, by rw [List.map_append]; rfl, take_next hqs hr, rfl, ow7, ecs6, erows6, hat3.1, fun r' hr' => ⟨hw6, rfl, _, _, hat3, low_turn hsub6 hY hm6 hr (hsub6.subset hr6) hr'⟩⟩
          · unfold Hold
            rintro gg ys _ ⟨qs, ⟨pa, po⟩, st6, atv6, tk6, tm6, ta6, tn6, tw6, tl6, hi6, nc6, ns6, rfl, hqs, rfl, ow6, ecs6, erows6, hp6, hlow6⟩ D2 h2 tk2 F25 N25 off
            rename CompInv _ => z; clear z
            rename StopFor => hS0; clear hS0
            have hS : StopFor := ⟨⟩
            k_steps
            rename StopFor => hS0; clear hS0
            unfold Hold
            with_reducible rename News _ _ _ _ => N26
            with_reducible rename Fr _ _ _ _ => F26
            refine m_sorted_bytes F26 N26 (by k_mem) (Nat.lt_of_le_of_lt (ls_len10 hsub) (by decide)) (c0_tri (hsub.nodup c0_nodup)) ?_
            intro D3 c3' h3' ys F27 N27 lo27 hperm hsrt
            have hys : qs.map (·.1) = ys.map (·.1) := by
              rw [hqs, List.length_map, ← hYl, List.take_length]
              exact sorted_uniq (hYp.trans (by rw [hcf]; exact hperm.symm)) hY hsrt
            have hS : StopFor := ⟨⟩
            k_steps
            rename StopFor => hS0; clear hS0
            unfold Hold
            with_reducible rename News _ _ _ _ => N29
            with_reducible rename Fr _ _ _ _ => F29
            have N30 := fun p hp => N29 p (.tail _ (.tail _ (.tail _ hp)))
            change News s1.heap s1.heap.objs.size _ _ at N30
            clear N29
            refine useL (k := 6) ⟨⟩ ow6 (m_delete49 (key := #[97, 97]) eJ2) (fun po => by obtain ⟨_, rfl, _⟩ := po; exact fun r hr => hr) (by k_asm) F29 (by k_asm) N30 (by k_asm) (by first | exact rfl | assumption) (by k_mem) (by k_mem) (by k_mem) (by k_mem) (fun q hq => .tail _ (.tail _ (.tail _ (.tail _ (.tail _ (.tail _ (.tail _ (.tail _ (.tail _ (.tail _ hq)))))))))) (by first | ktr_room | decide) (by first | ktr_units | decide) True.intro (by k_extra "k_off") ?_
            intro v st8 atv8 h18 tk18 ky tmy tay tny twy tly hiy ncy nsy F31 N31 G31 ow8 po
            dsimp only [List.take, List.cons_append, List.nil_append] at N31
            obtain ⟨_, rfl, tv, rfl⟩ := po
            have hend : st8.cs.map (·.1) = ls.map (·.1) := by rw [ecs6]; exact hcf
            clear N30 F29
            have hE : StopEq := ⟨⟩
            k_steps
            rename StopEq => hS0; clear hS0
            unfold Hold
            refine m_lists_eq (xs := st8.cs) (ys := ls) N31 (.tail _ (.tail _ (.tail _ (.tail _ (.tail _ (.tail _ (.tail _ (.tail _ (.head _))))))))) (.head _) (by ke_room) ?_
            rw [decide_eq_true hend]
            show GoodW _ _ _ _ _ (.ok (.ret (.bool true))) _
            exact goodW_bool F31 hgens (raisesW_false end_raises) (end_post _))

end Mine
theorem PySem.Challenge.cw_pb0243_02_holds : PySem.Challenge.rw_pb0243_02.Holds :=
  Mine.t02
