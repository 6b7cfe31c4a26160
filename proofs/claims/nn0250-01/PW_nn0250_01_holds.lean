import PyProof.Rows.All
import Wide.All
import OpenK.AllK
import Wide.FinOn
import PySem.Challenge.RW_nn0250_01
set_option Elab.async false
set_option rowWalk.seconds 0
section
open PySem PySem.W PyProof.Rows
namespace Mine
set_option maxRecDepth 100000 in
set_option maxHeartbeats 8000000 in
open_top hd for PySem.Challenge.rw_nn0250_01
end Mine
end
namespace Mine
theorem top_off_C0 : True := by
  w_top off
  trivial
end Mine
section
set_option maxRecDepth 100000
namespace Mine
open PySem PySem.W PySem.Calls PyProof.Rows PySem.Spec

/-- the surroundings at a level: room above for the calls within -/
noncomputable abbrev Lv (k : Nat) : Around := { handled := none, depth := 900 - 20 * k, frames := none, guards := none, units := 9000 - 200 * k }

theorem any_lower {α : Type} {M : Model} {A A' : Around} {t : Sem α} {Q : α → Shared → Prop} {E : Value → Shared → Prop} {s : Shared}
    (hf : A.frames = none) (hg : A.guards = none) (hh : A'.handled = A.handled) (hd : A'.depth ≤ A.depth) (hu : A'.units ≤ A.units)
    (h : wpAny M A t Q E s) : wpAny M A' t Q E s := fun Γ p hΓ =>
  h Γ p ⟨hΓ.1.trans hh, Nat.le_trans hΓ.2.1 hd, fun l hl => (by rw [hf] at hl; cases hl), fun l hl => (by rw [hg] at hl; cases hl), Nat.le_trans hΓ.2.2.2.2 hu⟩

/-- a list of ints, at an address -/
noncomputable def IL (h : Heap) (a : Addr) (xs : List Int) : Prop := ∃ vs n, h.get? a = some (listOf (List.toArray vs) n) ∧ IntsAre vs xs
theorem IL.keeps {h h' : Heap} {a : Addr} {xs : List Int} (k : h.StaysIn h') (x : IL h a xs) : IL h' a xs := let ⟨vs, n, e, i⟩ := x; ⟨vs, n, k _ _ e, i⟩

section
variable {prog : Program} {w : World} {A : Around} {R : Result → Shared → Prop} {s : Shared} {K : Frag} {p : Program} {loose : List Str} {mean : ExcName → Option Value} {mg mb : Str → Option Value}
  {name qual : Str} {params : Arguments} {body : List Stmt} {scope : Scope} {dV kV doc pm cdv ct oc : Value} {an od : Option Addr} {osl : Array (Option Value)} {f : Addr} {args : Args} {binds : List (Str × Value)}

theorem enter (X : K.In s.heap) (T : Top p loose mean mg mb s.heap) (ho : K.lookup f = some ⟨oc, od, .func (fnOf name qual params body scope dV kV doc pm an cdv ct), osl⟩) (hcd : codeIn K cdv qual = true)
    (hroom : A.depth < recursionLimit) (hbind : BindsTo s (fnOf name qual params body scope dV kV doc pm an cdv ct) args binds) (hloc : ∀ y ∈ binds, scope.names.lookup y.1 = some .local)
    (h : ∀ L h₁, Fr s.heap L h₁ (fun y => binds.reverse.lookup y) → News s.heap L h₁ [] →
      wpAny (model prog w) (A.deeper (envOf qual scope L f cdv)) (execs body (envOf qual scope L f cdv))
        (fun fl s' => R (.ok (.ret (match fl with | .ret v => v | _ => .none))) s') (fun _ _ => False) { s with heap := h₁, toks := s.toks + binds.length })
    (hcell : ∀ x ∈ scope.names, x.2 ≠ .cell) (hco : scope.isCoroutine = false) (hgen : scope.isGenerator = false) (hk : scope.kind = .function) :
    codeAny (model prog w) A (.call (.ref f) args) R s := by
  refine codeAny_call_def (fd := fnOf name qual params body scope dV kV doc pm an cdv ct) (body := body) (binds := binds) hroom (X _ _ ho) rfl T.nolimit (codeRec_of X hcd) rfl hbind hcell hloc (fun h₁ hns hk₁ => ?_) hco hgen hk
  exact wpAny_mono (h s.heap.objs.size h₁ ⟨hns, hk₁, Nat.le_refl _⟩ News.nil) (fun _ _ x => x) fun _ _ x => x.elim

theorem enterC (X : K.In s.heap) (T : Top p loose mean mg mb s.heap) (ho : K.lookup f = some ⟨oc, od, .func (fnOf name qual params body scope dV kV doc pm an cdv ct), osl⟩) (hcd : codeIn K cdv qual = true)
    (hroom : A.depth < recursionLimit) (hbind : BindsTo s (fnOf name qual params body scope dV kV doc pm an cdv ct) args binds)
    (hkind : (binds.all fun y => scope.names.lookup y.1 == some .local || scope.names.lookup y.1 == some .cell) = true)
    (hnd : ((cellsFrom 0 scope.names []).map (·.1)).Nodup)
    (h : ∀ L h₁ tk cells, Fr s.heap L h₁ (bindL (envOfC qual scope L f cdv).kindOf binds fun _ => none) → News s.heap L h₁ cells →
      CellsAre (bindC (envOfC qual scope L f cdv).kindOf binds fun _ => none) (cellsFrom (L + 1) scope.names []) cells →
      wpAny (model prog w) (A.deeper (envOfC qual scope L f cdv)) (execs body (envOfC qual scope L f cdv))
        (fun fl s' => R (.ok (.ret (match fl with | .ret v => v | _ => .none))) s') (fun _ _ => False) { s with heap := h₁, toks := tk })
    (hco : scope.isCoroutine = false) (hgen : scope.isGenerator = false) (hk : scope.kind = .function) : codeAny (model prog w) A (.call (.ref f) args) R s := by
  refine codeAny_call_function hroom (X _ _ ho) rfl hco hgen rfl (codeRec_of X hcd) (hbind _ _ _ _ ?_)
  refine wpAny_newFunctionEnv_cells hk (kindsX hkind _) fun env' he s' x => ?_
  subst he
  refine ⟨T.nolimit.keeps x.toInCall.keep, codeAny_func ?_⟩
  obtain ⟨h₁, tk, rfl, _⟩ := x.done
  have hk₁ := x.toInCall.keep
  obtain ⟨cells, NC, Y⟩ := Cl.news (h₀ := s.heap) (Nat.le_refl _) fun n c hm => ⟨x.cell n c (lookup_of_mem_nodup (cellsFrom_names scope.names 0 (s.heap.objs.size + 1) [] [] rfl ▸ hnd) hm), x.above n c hm⟩
  exact wpAny_mono (h s.heap.objs.size h₁ tk cells ⟨x.toInCall.ns, hk₁, Nat.le_refl _⟩ NC Y) (fun _ _ x => x) fun _ _ x => x.elim
end
end Mine
namespace Mine
open PySem PySem.W PySem.Calls PyProof.Rows PySem.Spec

/-- what a call of a def gives back: v in the heap h', over an s that stays -/
noncomputable def Fn (w : World) (k : Nat) (f : Addr) (s : Shared) (args : List Value) (P : Heap → Value → Prop) : Prop :=
  ∀ (Q : Value → Shared → Prop) (E : Value → Shared → Prop), (∀ v h' tk, s.heap.StaysIn h' → P h' v → Q v { s with heap := h', toks := tk }) →
    wpAny (model PySem.Challenge.rw_nn0250_01.row.prog w) (Lv k) (call (.ref f) args) Q E s

/-- a new list of ints -/
noncomputable def NewL (h : Heap) (xs : List Int) (h' : Heap) (v : Value) : Prop := ∃ l, v = .ref l ∧ h.get? l = none ∧ IL h' l xs

section
variable {w : World} {k : Nat} {f : Addr} {s : Shared} {args : List Value} {A : Around} {h₀ : Heap} {L : Addr} {m : Str → Option Value} {news : List (Addr × Obj)} {xs : List Int} {Q E : Value → Shared → Prop}

theorem Fr.stays {h h' : Heap} (F : Fr h₀ L h m) (k : h.StaysIn h') : Fr h₀ L h' m := F.keeps k
theorem News.stays {h h' : Heap} (N : News h₀ L h news) (k : h.StaysIn h') : News h₀ L h' news := fun p hp => ⟨k _ _ (N p hp).1, (N p hp).2⟩

theorem use_L (c : Fn w k f s args (NewL s.heap xs)) (F : Fr h₀ L s.heap m) (N : News h₀ L s.heap news)
    (h : ∀ l vs n h' tk, Fr h₀ L h' m → News h₀ L h' ((l, listOf (List.toArray vs) n) :: news) → (∀ p ∈ news, p.1 ≠ l) → IntsAre vs xs → Q (.ref l) { s with heap := h', toks := tk })
    (hh : A.handled = none) (hd : A.depth ≤ (Lv k).depth) (hu : A.units ≤ (Lv k).units) :
    wpAny (model PySem.Challenge.rw_nn0250_01.row.prog w) A (call (.ref f) args) Q E s := by
  refine any_lower rfl rfl hh hd hu (c Q E ?_)
  rintro v h' tk st ⟨l, rfl, hl, vs, n, e, i⟩
  refine h l vs n h' tk (Fr.stays F st) (fun p hp => ?_) (fun p hp q => ?_) i
  · rcases List.mem_cons.mp hp with rfl | hp
    · refine ⟨e, fun q => ?_, ?_⟩
      · obtain ⟨oL, _, _, hL, _⟩ := F.ns
        have q' : l = L := q
        rw [q', hL] at hl; cases hl
      · cases q : h₀.get? l with
        | none => rfl
        | some o => have := F.keep _ _ q; rw [hl] at this; cases this
    · exact News.stays N st p hp
  · have := (N p hp).1
    rw [q, hl] at this; cases this

theorem use_V {P : Heap → Value → Prop} (c : Fn w k f s args P) (F : Fr h₀ L s.heap m) (N : News h₀ L s.heap news)
    (h : ∀ v h' tk, Fr h₀ L h' m → News h₀ L h' news → P h' v → Q v { s with heap := h', toks := tk })
    (hh : A.handled = none) (hd : A.depth ≤ (Lv k).depth) (hu : A.units ≤ (Lv k).units) :
    wpAny (model PySem.Challenge.rw_nn0250_01.row.prog w) A (call (.ref f) args) Q E s := by
  refine any_lower rfl rfl hh hd hu (c Q E ?_)
  exact fun v h' tk st p => h v h' tk (Fr.stays F st) (News.stays N st) p

theorem NewL.of {h h' : Heap} {l : Addr} {vs : List Value} {n : Nat} (N : News h L h' news) (hm : (l, listOf (List.toArray vs) n) ∈ news) (i : IntsAre vs xs) : NewL h xs h' (.ref l) :=
  ⟨l, rfl, (N _ hm).2.2, vs, n, (N _ hm).1, i⟩
end
end Mine

namespace Mine
theorem IntsAre.snoc {ws : List PySem.Value} {g : Nat → Int} {i : Nat} {v : Int} {t : PySem.Tok} (h : PyProof.Rows.IntsAre ws ((List.range i).map g)) (e : v = g i) : PyProof.Rows.IntsAre (ws ++ [.int v t]) ((List.range (i + 1)).map g) := by
  rw [List.range_succ, List.map_append, e]
  exact PyProof.Rows.IntsAre.append h (.cons _ _ .nil)
end Mine

namespace Mine
noncomputable def Halt (P : Prop) : Prop := P
theorem halt {P : Prop} (h : Halt P) : P := h
end Mine

namespace Mine
open PySem PySem.W PySem.Calls PyProof.Rows PySem.Spec
section
variable {w : World} {k : Nat} {f : Addr} {s : Shared} {args : List Value} {A : Around} {h₀ : Heap} {L : Addr} {m : Str → Option Value} {news : List (Addr × Obj)} {xs : List Int} {Q E : Value → Shared → Prop}

theorem use_I {n : Int} (c : Fn w k f s args (fun _ v => ∃ t, v = .int n t)) (F : Fr h₀ L s.heap m) (N : News h₀ L s.heap news)
    (h : ∀ t h' tk, Fr h₀ L h' m → News h₀ L h' news → Q (.int n t) { s with heap := h', toks := tk })
    (hh : A.handled = none) (hd : A.depth ≤ (Lv k).depth) (hu : A.units ≤ (Lv k).units) :
    wpAny (model PySem.Challenge.rw_nn0250_01.row.prog w) A (call (.ref f) args) Q E s := by
  refine any_lower rfl rfl hh hd hu (c Q E ?_)
  rintro v h' tk st ⟨t, rfl⟩
  exact h t h' tk (Fr.stays F st) (News.stays N st)

theorem fresh_news {h' : Heap} {l : Addr} {o : Obj} (F : Fr h₀ L s.heap m) (hl : s.heap.get? l = none) (e : h'.get? l = some o) : h'.get? l = some o ∧ l ≠ L ∧ h₀.get? l = none := by
  refine ⟨e, fun q => ?_, ?_⟩
  · obtain ⟨oL, _, _, hL, _⟩ := F.ns
    rw [q, hL] at hl; cases hl
  · cases q : h₀.get? l with
    | none => rfl
    | some o => have := F.keep _ _ q; rw [hl] at this; cases this

noncomputable abbrev tupOf (its : List Value) : Obj := { cls := .type "tuple", data := .seq its.toArray }
/-- a new tuple of three ints -/
noncomputable def NewT3 (h : Heap) (x : Int × Int × Int) (h' : Heap) (v : Value) : Prop := ∃ T t1 t2 t3, v = .ref T ∧ h.get? T = none ∧ h'.get? T = some (tupOf [.int x.1 t1, .int x.2.1 t2, .int x.2.2 t3])
theorem use_T3 {x : Int × Int × Int} (c : Fn w k f s args (NewT3 s.heap x)) (F : Fr h₀ L s.heap m) (N : News h₀ L s.heap news)
    (h : ∀ T t1 t2 t3 h' tk, Fr h₀ L h' m → News h₀ L h' ((T, tupOf [.int x.1 t1, .int x.2.1 t2, .int x.2.2 t3]) :: news) → (∀ p ∈ news, p.1 ≠ T) → Q (.ref T) { s with heap := h', toks := tk })
    (hh : A.handled = none) (hd : A.depth ≤ (Lv k).depth) (hu : A.units ≤ (Lv k).units) :
    wpAny (model PySem.Challenge.rw_nn0250_01.row.prog w) A (call (.ref f) args) Q E s := by
  refine any_lower rfl rfl hh hd hu (c Q E ?_)
  rintro v h' tk st ⟨T, t1, t2, t3, rfl, hl, e⟩
  refine h T t1 t2 t3 h' tk (Fr.stays F st) (fun p hp => ?_) (fun p hp q => ?_)
  · rcases List.mem_cons.mp hp with rfl | hp
    · exact fresh_news F hl e
    · exact News.stays N st p hp
  · have := (N p hp).1
    rw [q, hl] at this; cases this

/-- a new tuple of two new lists of ints -/
noncomputable def NewLL (h : Heap) (xs ys : List Int) (h' : Heap) (v : Value) : Prop := ∃ T a b, v = .ref T ∧ h.get? T = none ∧ h.get? a = none ∧ h.get? b = none ∧ h'.get? T = some (tupOf [.ref a, .ref b]) ∧ IL h' a xs ∧ IL h' b ys
theorem use_LL {xs ys : List Int} (c : Fn w k f s args (NewLL s.heap xs ys)) (F : Fr h₀ L s.heap m) (N : News h₀ L s.heap news)
    (h : ∀ T a us n b vs n' h' tk, Fr h₀ L h' m → News h₀ L h' ((T, tupOf [.ref a, .ref b]) :: (a, listOf (List.toArray us) n) :: (b, listOf (List.toArray vs) n') :: news) → IntsAre us xs → IntsAre vs ys → Q (.ref T) { s with heap := h', toks := tk })
    (hh : A.handled = none) (hd : A.depth ≤ (Lv k).depth) (hu : A.units ≤ (Lv k).units) :
    wpAny (model PySem.Challenge.rw_nn0250_01.row.prog w) A (call (.ref f) args) Q E s := by
  refine any_lower rfl rfl hh hd hu (c Q E ?_)
  rintro v h' tk st ⟨T, a, b, rfl, hl, ha, hb, e, ⟨us, n, ea, ia⟩, vs, n', eb, ib⟩
  refine h T a us n b vs n' h' tk (Fr.stays F st) (fun p hp => ?_) ia ib
  rcases List.mem_cons.mp hp with rfl | hp
  · exact fresh_news F hl e
  rcases List.mem_cons.mp hp with rfl | hp
  · exact fresh_news F ha ea
  rcases List.mem_cons.mp hp with rfl | hp
  · exact fresh_news F hb eb
  · exact News.stays N st p hp
end
end Mine
end
namespace Mine
theorem top_off_C1 : True := by
  w_top off
  trivial
end Mine
section
set_option maxRecDepth 100000
set_option linter.unusedVariables false
namespace Mine
open PySem PySem.W PySem.Calls PyProof.Rows PySem.Spec

/-- a frame's map: named values ahead, junk for what the loop stores, else as it was -/
noncomputable abbrev mapB (stored : List Str) (u m₀ : Str → Option Value) (ps : List (Str × Value)) : Str → Option Value :=
  kstB (fun z => if stored.contains z then u z else m₀ z) ps

/-- behind a turn -/
noncomputable def TurnEnd {σ : Type} (h₀ : Heap) (L : Addr) (Led : σ → List (Addr × Obj)) (ps : σ → List (Str × Value)) (stored : List Str) (m₀ : Str → Option Value) (P : σ → Prop)
    (own : List (Addr × Obj)) (s₁ s₂ : Shared) : Prop :=
  ∃ h' tk m' news' c', s₂ = { s₁ with heap := h', toks := tk } ∧ Fr h₀ L h' m' ∧ News h₀ L h' news' ∧ (∀ p ∈ Led c', p ∈ news') ∧ (∀ p ∈ own, p ∈ news') ∧ OwnOff own ((Led c').map (·.1)) ∧
    (∀ p ∈ ps c', m' p.1 = some p.2) ∧ (∀ z, (∀ p ∈ ps c', z ≠ p.1) → stored.contains z = false → m' z = m₀ z) ∧ P c'
noncomputable def TurnPost {σ : Type} (h₀ : Heap) (L : Addr) (Led : σ → List (Addr × Obj)) (ps : σ → List (Str × Value)) (stored : List Str) (m₀ : Str → Option Value) (P : σ → Prop)
    (own : List (Addr × Obj)) (s₁ : Shared) (Q : Flow → Shared → Prop) (f : Flow) (s₂ : Shared) : Prop :=
  match f with
  | .ret v => Q (.ret v) s₂
  | .brk => Q .next s₂
  | _ => TurnEnd h₀ L Led ps stored m₀ P own s₁ s₂
theorem TurnEnd.intro {σ : Type} {h₀ : Heap} {L : Addr} {Led : σ → List (Addr × Obj)} {ps : σ → List (Str × Value)} {stored : List Str} {m₀ m' : Str → Option Value} {P : σ → Prop}
    {own news' : List (Addr × Obj)} {s₁ : Shared} {h' : Heap} {tk : Nat} (c' : σ) (F : Fr h₀ L h' m') (N : News h₀ L h' news') (hn : ∀ p ∈ Led c', p ∈ news') (ho : ∀ p ∈ own, p ∈ news') (hoff : OwnOff own ((Led c').map (·.1)))
    (hk : ∀ p ∈ ps c', m' p.1 = some p.2) (hr : ∀ z, (∀ p ∈ ps c', z ≠ p.1) → stored.contains z = false → m' z = m₀ z) (hp : P c') :
    TurnEnd h₀ L Led ps stored m₀ P own s₁ { s₁ with heap := h', toks := tk } := ⟨h', tk, m', news', c', rfl, F, N, hn, ho, hoff, hk, hr, hp⟩

section
variable {prog : Program} {w : World} {A : Around} {E : Value → Shared → Prop} {s : Shared} {env : Env} {h₀ : Heap} {target : Expr} {body : List Stmt} {Q : Flow → Shared → Prop}

theorem for_core {σ : Type} (Led : σ → List (Addr × Obj)) (ps : σ → List (Str × Value)) (stored : List Str) (P : Nat → σ → Prop) (c₀ : σ) {m₀ : Str → Option Value}
    {I : Addr} {fp wr : List Addr} {n : Nat} {PP Md : Nat → Value → Heap → Prop} {St : Nat → Heap → Prop} {s₂ : Shared}
    (W : KTurns prog w A target I fp wr n PP Md St) (hLf : env.locals ∉ fp) (hwr : ∀ b ∈ wr, h₀.get? b = none) (hfp : ∀ b ∈ fp, b ∈ wr ∨ ∃ o, h₀.get? b = some o)
    (hnw : ∀ p ∈ Led c₀, p.1 ∉ wr) (hlive : ∀ i h, St i h → ∀ b ∈ wr, ∃ o, h.get? b = some o) (hst : St 0 s₂.heap)
    (F : Fr h₀ env.locals s₂.heap m₀) (N : News h₀ env.locals s₂.heap (Led c₀)) (hk : ∀ p ∈ ps c₀, m₀ p.1 = some p.2) (hp : P 0 c₀)
    (turn : ∀ c i v u h tk own, i < n → PP i v h → OwnOff own ((Led c).map (·.1)) → P i c → Fr h₀ env.locals h (mapB stored u m₀ (ps c)) → News h₀ env.locals h (Led c ++ own) →
      wpAny (model prog w) A (assign target env v) (fun _ s₃ => wpAny (model prog w) A (execs body env) (TurnPost h₀ env.locals Led ps stored m₀ (P (i + 1)) own { s₂ with heap := h, toks := tk } Q) E s₃) E { s₂ with heap := h, toks := tk })
    (done : ∀ c u h tk, P n c → Fr h₀ env.locals h (mapB stored u m₀ (ps c)) → News h₀ env.locals h (Led c) → Q .next { s₂ with heap := h, toks := tk }) :
    TurnsAt prog w A h₀ env target body Q E (.ref I) s₂ := by
  refine ⟨I, fp, wr, n, PP, Md, St, m₀, Led c₀, (fun i m nx => ∃ c, nx = Led c ∧ (∀ p ∈ ps c, m p.1 = some p.2) ∧ (∀ z, (∀ p ∈ ps c, z ≠ p.1) → stored.contains z = false → m z = m₀ z) ∧ P i c),
    rfl, W, hLf, hwr, hnw, hst, F, N, ⟨c₀, rfl, hk, fun _ _ _ => rfl, hp⟩, ?_, ?_⟩
  · rintro i v m₁ news₁ h₁ tk₁ own hin hP ⟨c, rfl, h1, h2, hp'⟩ hoff hown hget hall hst₁ F₁ N₁
    have hsep : OwnOff own ((Led c).map (·.1)) := by
      intro p hpo b hb e
      obtain ⟨q, hq, rfl⟩ := List.mem_map.mp hb
      rcases hfp _ (hown p hpo) with h | ⟨o, ho⟩
      · exact hoff q hq (e ▸ h)
      · have := (N₁ p (List.mem_append_left _ hpo)).2.2
        rw [ho] at this; cases this
    have N₂ : News h₀ env.locals h₁ (Led c ++ own) := fun p hp => N₁ p ((List.mem_append.mp hp).elim (fun h => List.mem_append.mpr (.inr h)) fun h => List.mem_append.mpr (.inl h))
    refine wpAny_mono (turn c i v m₁ h₁ tk₁ own hin hP hsep hp' (ksw_fr h1 h2 F₁) N₂) (fun _ s₃ h₃ => wpAny_mono h₃ (fun f s₄ p => ?_) fun _ _ e => e) fun _ _ e => e
    have fin : TurnEnd h₀ env.locals Led ps stored m₀ (P (i + 1)) own { s₂ with heap := h₁, toks := tk₁ } s₄ →
        LoopStepU h₀ env.locals wr own (fun m nx => ∃ c, nx = Led c ∧ (∀ p ∈ ps c, m p.1 = some p.2) ∧ (∀ z, (∀ p ∈ ps c, z ≠ p.1) → stored.contains z = false → m z = m₀ z) ∧ P (i + 1) c) { s₂ with heap := h₁, toks := tk₁ } .next s₄ := by
      rintro ⟨h', tk, m', news', c', e, F', N', hn, ho, ho', hk', hr', hp9⟩
      refine ⟨rfl, h', tk, m', Led c', e, F', fun p hp => N' p ((List.mem_append.mp hp).elim (ho p) (hn p)), fun p hp hI => ?_, c', rfl, hk', hr', hp9⟩
      obtain ⟨o, hlo⟩ := hlive _ _ hst₁ _ hI
      have hmem : (p.1, o) ∈ own := hall _ (W.sub _ hI) (hwr _ hI) o hlo
      exact ho' _ hmem p.1 (List.mem_map_of_mem hp) rfl
    cases f with
    | ret v => exact p
    | brk => exact p
    | next => exact fin p
    | cont => exact fin p
  · rintro h' tk m' news' F' N' _ ⟨c, rfl, h1, h2, hp'⟩
    exact done c m' h' tk hp' (ksw_fr h1 h2 F') N'

/-- for x in range(..) -/
theorem for_range {σ : Type} {x : Str} {px : Pos} (Led : σ → List (Addr × Obj)) (ps : σ → List (Str × Value)) (stored : List Str) (P : Nat → σ → Prop) (c₀ : σ) {m₀ : Str → Option Value}
    {r : Addr} {a₀ b₀ st₀ : Int} {t₀ u₀ v₀ : Tok} {n : Nat}
    (hh : A.handled = none) (hr : IsRange s.heap r a₀ b₀ st₀ t₀ u₀ v₀) (hsmall : Builtin.Range.small a₀ b₀ st₀ = true) (hn : Builtin.Range.rangeSize a₀ b₀ st₀ = (n : Int))
    (hx : env.kindOf x = some .local) (hsc : (env.scope.kind == .class || (env.scope.kind == .module && env.locals != env.globals)) = false)
    (F : Fr h₀ env.locals s.heap m₀) (N : News h₀ env.locals s.heap (Led c₀)) (hk : ∀ p ∈ ps c₀, m₀ p.1 = some p.2) (hp : P 0 c₀)
    (turn : ∀ c i t u h tk own, i < n → OwnOff own ((Led c).map (·.1)) → P i c → Fr h₀ env.locals h (fun y => if y = x then some (.int (a₀ + (i : Int) * st₀) t) else mapB stored u m₀ (ps c) y) → News h₀ env.locals h (Led c ++ own) →
      ∀ R : Flow → Shared → Prop, (∀ f s', TurnPost h₀ env.locals Led ps stored m₀ (P (i + 1)) own { s with heap := h, toks := tk } Q f s' → R f s') →
      wpAny (model prog w) A (execs body env) R E { s with heap := h, toks := tk })
    (done : ∀ c u h tk, P n c → Fr h₀ env.locals h (mapB stored u m₀ (ps c)) → News h₀ env.locals h (Led c) → Q .next { s with heap := h, toks := tk }) :
    wpAny (model prog w) A (pyIter (.ref r)) (fun it s₂ => TurnsAt prog w A h₀ env (.Name x px) body Q E it s₂) E s := by
  refine wpAny_pyIter_range hr hsmall ?_
  have W : KTurns prog w A (.Name x px) s.heap.objs.size [s.heap.objs.size] [s.heap.objs.size] n _ _ (fun i h => IsRangeIter h s.heap.objs.size (a₀ + (i : Nat) * st₀) ((n : Int) - (i : Nat)) st₀) :=
    KTurns.ofWalks (Walks.range hh s.heap.objs.size a₀ st₀ n) fun i v s' Q' E' _ hq => wpAny_pure hq
  refine for_core (s₂ := { s with heap := s.heap.push { cls := .type "range_iterator", data := .fields #[rawInt a₀, rawInt (Builtin.Range.rangeSize a₀ b₀ st₀), rawInt st₀] } })
    Led ps stored P c₀ W ?_ ?_ (fun b hb => .inl hb) ?_ ?_ (by show IsRangeIter _ _ _ _ _; rw [hn]; simpa using Heap.get?_push_size _ rfl) (F.push _) (fun p hp => ⟨Heap.get?_push_of_some _ (N p hp).1, (N p hp).2⟩) hk hp ?_ ?_
  · intro hm
    exact absurd F.ns.lt ((List.mem_singleton.mp hm) ▸ Nat.lt_irrefl _)
  · intro b hb
    rw [List.mem_singleton.mp hb]
    exact next_is_new F
  · intro p hp hI
    exact absurd (Heap.lt_size (N p hp).1) ((List.mem_singleton.mp hI) ▸ Nat.lt_irrefl _)
  · intro i h st b hb
    rw [List.mem_singleton.mp hb]
    exact ⟨_, st⟩
  · rintro c i v u h tk own hi ⟨t, rfl⟩ hoff hp' F₁ N₁
    exact wpAny_assign_Name (wpAny_storeName_local hx F₁.ns (fun h' hn' hs => turn c i t u h' _ own hi hoff hp' (F₁.set hn' hs) (N₁.set hs) _ (fun _ _ q => q)) hsc)
  · exact fun c u h tk hp' F' N' => done c u h tk hp' F' N'

/-- for xi, xc in enumerate(l), l of the base heap -/
theorem for_enum {σ : Type} {xi xc : Str} {pk pv pt : Pos} {kk : Nat} (Led : σ → List (Addr × Obj)) (ps : σ → List (Str × Value)) (stored : List Str) (P : Nat → σ → Prop) (c₀ : σ) {m₀ : Str → Option Value}
    {l : Addr} {vs : List Value} {ns : List Int}
    (hh : A.handled = none) (hl : h₀.IsList l vs.toArray) (hi : IntsAre vs ns)
    (hxi : env.kindOf xi = some .local) (hxc : env.kindOf xc = some .local) (hsc : (env.scope.kind == .class || (env.scope.kind == .module && env.locals != env.globals)) = false)
    (F : Fr h₀ env.locals s.heap m₀) (N : News h₀ env.locals s.heap (Led c₀)) (hk : ∀ p ∈ ps c₀, m₀ p.1 = some p.2) (hp : P 0 c₀)
    (turn : ∀ c i t t' u h tk own, i < ns.length → OwnOff own ((Led c).map (·.1)) → P i c →
      Fr h₀ env.locals h (fun y => if y = xc then some (.int (ns.getD i 0) t') else if y = xi then some (.int (i : Int) t) else mapB stored u m₀ (ps c) y) → News h₀ env.locals h (Led c ++ own) →
      ∀ R : Flow → Shared → Prop, (∀ f s', TurnPost h₀ env.locals Led ps stored m₀ (P (i + 1)) own { s with heap := h, toks := tk } Q f s' → R f s') →
      wpAny (model prog w) A (execs body env) R E { s with heap := h, toks := tk })
    (done : ∀ c u h tk, P ns.length c → Fr h₀ env.locals h (mapB stored u m₀ (ps c)) → News h₀ env.locals h (Led c) → Q .next { s with heap := h, toks := tk }) :
    wpAny (model prog w) A (call (.type "enumerate") [.ref l]) (fun xv s₁ => wpAny (model prog w) A (pyIter xv) (fun it s₂ => TurnsAt prog w A h₀ env (.Tuple [.Name xi pk, .Name xc pv] kk pt) body Q E it s₂) E s₁) E s := by
  have hls : s.heap.IsList l vs.toArray := hl.at fun o e => F.keep l o e
  obtain ⟨ol, hol, _⟩ := id hl
  have hl0 : l < h₀.objs.size := Heap.lt_size hol
  have hlL : l < env.locals := Nat.lt_of_lt_of_le hl0 F.above
  have hLs : env.locals < s.heap.objs.size := F.ns.lt
  have hlt : l < s.heap.objs.size := Nat.lt_trans hlL hLs
  refine call_enumerate_list hls fun h' hE hI hsz hkk => ?_
  refine wpAny_pyIter_enum hE ?_
  have W := KTurns.ofWalksU (elts := [.Name xi pk, .Name xc pv]) (k := kk) (pos := pt) (WalksT.enumerate (prog := prog) (w := w) hh (s.heap.objs.size + 1) s.heap.objs.size l (Nat.succ_ne_self _) (ktu_ne 1 hlt) (Nat.ne_of_lt hlt) vs.toArray).toU
  have hsize : vs.toArray.size = ns.length := by simp [hi.length]
  rw [hsize] at W
  refine for_core (s₂ := { s with heap := h' }) Led ps stored P c₀ W ?_ ?_ ?_ ?_ ?_ ⟨⟨.none, hE⟩, hI, hls.at fun o e => hkk l o e⟩ (F.keeps hkk) (N.grown hkk) hk hp ?_ (fun c u h tk hp' F' N' => done c u h tk hp' F' N')
  · intro hm
    have hb' : env.locals = s.heap.objs.size + 1 ∨ env.locals = s.heap.objs.size ∨ env.locals = l := by simpa using hm
    rcases hb' with e | e | e
    · exact ktu_ne 1 hLs e
    · exact Nat.ne_of_lt hLs e
    · exact Nat.ne_of_gt hlL e
  · intro b hb
    have hb' : b = s.heap.objs.size + 1 ∨ b = s.heap.objs.size := by simpa using hb
    rcases hb' with rfl | rfl
    · exact ktu_new F (Nat.le_add_right _ _)
    · exact ktu_new F (Nat.le_refl _)
  · intro b hb
    have hb' : b = s.heap.objs.size + 1 ∨ b = s.heap.objs.size ∨ b = l := by simpa using hb
    rcases hb' with rfl | rfl | rfl
    · exact .inl (by simp)
    · exact .inl (by simp)
    · exact .inr ⟨_, hol⟩
  · intro p hp hI'
    have hb' : p.1 = s.heap.objs.size + 1 ∨ p.1 = s.heap.objs.size := by simpa using hI'
    have hlp := Heap.lt_size (N p hp).1
    rcases hb' with e | e
    · exact ktu_ne 1 hlp e
    · exact Nat.ne_of_lt hlp e
  · rintro i h ⟨⟨old, he⟩, ⟨oi, hoi, _⟩, _⟩ b hb
    have hb' : b = s.heap.objs.size + 1 ∨ b = s.heap.objs.size := by simpa using hb
    rcases hb' with rfl | rfl
    · exact ⟨_, he⟩
    · exact ⟨_, hoi⟩
  · rintro c i v u h tk own hin ⟨T, vals, rfl, ⟨t, x, hx, rfl⟩, hT⟩ hoff hp' F₁ N₁
    obtain ⟨t', hx'⟩ := hi.get i (ns.getD i 0) (by simp [List.getD_eq_getElem?_getD, hin])
    have hxv : x = .int (ns.getD i 0) t' := by
      have : vs[i]? = some x := by simpa using hx
      rw [hx'] at this; exact (Option.some.inj this).symm
    subst hxv
    refine kcp_assign hh hT hxi hxc hsc F₁.ns fun h₂ tk₂ hn₂ hs₂ => ?_
    refine turn c i t t' u h₂ tk₂ own hin hoff hp' ⟨hn₂, fun b o e => hs₂ b o (fun q => ?_) (F₁.keep b o e), F₁.above⟩ (fun p hp => ⟨hs₂ _ _ (N₁ p hp).2.1 (N₁ p hp).1, (N₁ p hp).2⟩) _ (fun _ _ q => q)
    exact absurd (Heap.lt_size e) (Nat.not_lt.mpr (q ▸ F₁.above))
end
end Mine
namespace Mine
open PySem PySem.W PySem.Calls PyProof.Rows PySem.Spec
/-- one list in the ledger: its values, its count -/
noncomputable abbrev VN := List Value × Nat
noncomputable abbrev led1 (D : Addr) (c : VN) : List (Addr × Obj) := [(D, listOf (List.toArray c.1) c.2)]
theorem TurnEnd.one {h₀ : Heap} {L D : Addr} {ps : VN → List (Str × Value)} {stored : List Str} {m₀ m' : Str → Option Value} {P : VN → Prop}
    {own : List (Addr × Obj)} {s₁ : Shared} {h' : Heap} {tk : Nat} {vs : List Value} {n : Nat} (F : Fr h₀ L h' m') (N : News h₀ L h' ((D, listOf (List.toArray vs) n) :: own)) (hoff : OwnOff own [D])
    (hk : ∀ p ∈ ps (vs, n), m' p.1 = some p.2) (hr : ∀ z, (∀ p ∈ ps (vs, n), z ≠ p.1) → stored.contains z = false → m' z = m₀ z) (hp : P (vs, n)) :
    TurnEnd h₀ L (led1 D) ps stored m₀ P own s₁ { s₁ with heap := h', toks := tk } :=
  TurnEnd.intro (vs, n) F N (fun p hp => by rw [List.mem_singleton.mp hp]; exact .head _) (fun p hp => .tail _ hp) hoff hk hr hp
end Mine
namespace Mine
open PySem PySem.W PySem.Calls PyProof.Rows PySem.Spec
/-- one list of the ledger, and what else stands -/
noncomputable abbrev ledR (D : Addr) (R : List (Addr × Obj)) (c : VN) : List (Addr × Obj) := (D, listOf (List.toArray c.1) c.2) :: R
theorem TurnEnd.oneR {h₀ : Heap} {L D : Addr} {R : List (Addr × Obj)} {ps : VN → List (Str × Value)} {stored : List Str} {m₀ m' : Str → Option Value} {P : VN → Prop}
    {own : List (Addr × Obj)} {s₁ : Shared} {h' : Heap} {tk : Nat} {vs : List Value} {n : Nat} (F : Fr h₀ L h' m') (N : News h₀ L h' ((D, listOf (List.toArray vs) n) :: (R ++ own))) (hoff : OwnOff own (D :: R.map (·.1)))
    (hk : ∀ p ∈ ps (vs, n), m' p.1 = some p.2) (hr : ∀ z, (∀ p ∈ ps (vs, n), z ≠ p.1) → stored.contains z = false → m' z = m₀ z) (hp : P (vs, n)) :
    TurnEnd h₀ L (ledR D R) ps stored m₀ P own s₁ { s₁ with heap := h', toks := tk } :=
  TurnEnd.intro (vs, n) F N (fun p hp => by
    rcases List.mem_cons.mp hp with rfl | hp
    · exact .head _
    · exact .tail _ (List.mem_append_left _ hp)) (fun p hp => .tail _ (List.mem_append_right _ hp)) hoff hk hr hp
theorem off_app {own own2 : List (Addr × Obj)} {D : Addr} {r : List Addr} (h1 : OwnOff own [D]) (h2 : OwnOff own2 (D :: r)) : ∀ p ∈ own ++ own2, p.1 ≠ D := fun p hp => by
  rcases List.mem_append.mp hp with h | h
  · exact h1 p h D (.head _)
  · exact h2 p h D (.head _)
theorem News.first {h₀ h : Heap} {L : Addr} {a : Addr × Obj} {r : List (Addr × Obj)} (N : News h₀ L h (a :: r)) : News h₀ L h [a] := fun p hp => N p (by rw [List.mem_singleton.mp hp]; exact .head _)
theorem rep_flat (n : Nat) (x : Int) : (List.replicate n [x]).flatten = List.replicate n x := by
  induction n with
  | zero => rfl
  | succ n ih => rw [List.replicate_succ, List.flatten_cons, ih, List.replicate_succ]; rfl
end Mine
namespace Mine
open PySem PySem.W PySem.Calls PyProof.Rows PySem.Spec
theorem whileR {prog : Program} {w : World} {A : Around} {E : Value → Shared → Prop} {Q : Flow → Shared → Prop} {s : Shared} {env : Env} {h₀ : Heap} {L : Addr} {σ : Type} {test : Expr} {body : List Stmt} {pos : Pos} {m₀ : Str → Option Value}
    (Led : σ → List (Addr × Obj)) (ps : σ → List (Str × Value)) (Facts : σ → Prop) (stored : List Str) (P : σ → Prop) (μ : σ → Nat) (c₀ : σ)
    (F : Fr h₀ L s.heap m₀) (N : News h₀ L s.heap (Led c₀)) (hf : Facts c₀) (hk : ∀ p ∈ ps c₀, m₀ p.1 = some p.2) (hp : P c₀)
    (turn : ∀ (c : σ) (u : Str → Option Value) h tk, Facts c → P c → Fr h₀ L h (kstB (fun z => if stored.contains z then u z else m₀ z) (ps c)) → News h₀ L h (Led c) →
      ∀ R : Flow → Shared → Prop, (∀ f s', KswPost h₀ L s Led ps Facts stored m₀ P μ Q c f s' → R f s') →
      wpAny (model prog w) A (isTrue test env (eval test env)) (fun b s₂ => if b = true then wpAny (model prog w) A (execs body env) R E s₂ else Q .next s₂) E { s with heap := h, toks := tk })
    (hE : PassesOwn (model prog w) A env E := by passes_own) :
    wpAny (model prog w) A (exec (.While test body [] pos) env) Q E s :=
  ksw_while Led ps Facts stored P μ c₀ F N hf hk hp (fun c u h tk a b f n => turn c u h tk a b f n _ (fun _ _ q => q)) hE
end Mine
end
namespace Mine
theorem top_off_C2 : True := by
  w_top off
  trivial
end Mine
section
set_option maxRecDepth 100000
set_option linter.unusedVariables false
namespace Mine
open PySem PySem.W PySem.Calls PyProof.Rows PySem.Spec
theorem norm_toks {α : Type} {M : Model} {A : Around} {t : Sem α} {Q : α → Shared → Prop} {E : Value → Shared → Prop} {h : Heap} {g : Array GenState} {d : Drawn} {k : Nat} {o : OsState}
  (H : ∀ k, wpAny M A t Q E ⟨h, g, d, k, o⟩) : wpAny M A t Q E ⟨h, g, d, k, o⟩ := H _
end Mine
namespace Mine
open PySem PySem.W PySem.Calls PyProof.Rows PySem.Spec
noncomputable abbrev led2 (D1 D2 : Addr) (c : VN × VN) : List (Addr × Obj) := [(D1, listOf c.1.1.toArray c.1.2), (D2, listOf c.2.1.toArray c.2.2)]
theorem News.sub {h₀ h : Heap} {L : Addr} {news news' : List (Addr × Obj)} (N : News h₀ L h news) (hs : ∀ p ∈ news', p ∈ news) : News h₀ L h news' := fun p hp => N p (hs p hp)
theorem TurnEnd.two {h₀ : Heap} {L D1 D2 : Addr} {ps : VN × VN → List (Str × Value)} {stored : List Str} {m₀ m' : Str → Option Value} {P : VN × VN → Prop}
    {own : List (Addr × Obj)} {s₁ : Shared} {h' : Heap} {tk : Nat} {vs ws : List Value} {n m : Nat} (F : Fr h₀ L h' m') (N : News h₀ L h' ((D1, listOf (List.toArray vs) n) :: (D2, listOf (List.toArray ws) m) :: own)) (hoff : OwnOff own [D1, D2])
    (hk : ∀ p ∈ ps ((vs, n), (ws, m)), m' p.1 = some p.2) (hr : ∀ z, (∀ p ∈ ps ((vs, n), (ws, m)), z ≠ p.1) → stored.contains z = false → m' z = m₀ z) (hp : P ((vs, n), (ws, m))) :
    TurnEnd h₀ L (led2 D1 D2) ps stored m₀ P own s₁ { s₁ with heap := h', toks := tk } :=
  TurnEnd.intro ((vs, n), (ws, m)) F N (fun p hp => by
    rcases List.mem_cons.mp hp with rfl | hp
    · exact .head _
    · rw [List.mem_singleton.mp hp]; exact .tail _ (.head _)) (fun p hp => .tail _ (.tail _ hp)) hoff hk hr hp
theorem off_app2 {own own2 : List (Addr × Obj)} {D1 D2 : Addr} {r : List Addr} (h1 : OwnOff own [D1, D2]) (h2 : OwnOff own2 (D1 :: D2 :: r)) : ∀ p ∈ own ++ own2, p.1 ≠ D1 ∧ p.1 ≠ D2 := fun p hp => by
  rcases List.mem_append.mp hp with h | h
  · exact ⟨h1 p h D1 (.head _), h1 p h D2 (.tail _ (.head _))⟩
  · exact ⟨h2 p h D1 (.head _), h2 p h D2 (.tail _ (.head _))⟩
end Mine
namespace Mine
open PySem PySem.W PySem.Calls PyProof.Rows PySem.Spec
theorem NewLL.of {h h' : Heap} {L T a b : Addr} {vs ws : List Value} {n m : Nat} {xs ys : List Int} {news : List (Addr × Obj)} (N : News h L h' news) (hT : (T, tupOf [.ref a, .ref b]) ∈ news)
    (ha : (a, listOf (List.toArray vs) n) ∈ news) (hb : (b, listOf (List.toArray ws) m) ∈ news) (i : IntsAre vs xs) (j : IntsAre ws ys) : NewLL h xs ys h' (.ref T) :=
  ⟨T, a, b, rfl, (N _ hT).2.2, (N _ ha).2.2, (N _ hb).2.2, (N _ hT).1, ⟨vs, n, (N _ ha).1, i⟩, ws, m, (N _ hb).1, j⟩
end Mine
namespace Mine
open PySem PySem.W PySem.Calls PyProof.Rows PySem.Spec
/-- a list that stood before the call, or that the call has made -/
noncomputable def Loc (h₀ : Heap) (led : List (Addr × Obj)) (a : Addr) (vs : List Value) : Prop := h₀.IsList a vs.toArray ∨ ∃ n, (a, listOf vs.toArray n) ∈ led
theorem Loc.isList {h₀ h : Heap} {L a : Addr} {m : Str → Option Value} {led : List (Addr × Obj)} {vs : List Value} (x : Loc h₀ led a vs) (F : Fr h₀ L h m) (N : News h₀ L h led) : h.IsList a vs.toArray := by
  rcases x with x | ⟨n, x⟩
  · exact Fr.lst F x
  · exact News.isList N x
theorem Loc.more {h₀ : Heap} {a : Addr} {led led' : List (Addr × Obj)} {vs : List Value} (x : Loc h₀ led a vs) (hs : ∀ p ∈ led, p ∈ led') : Loc h₀ led' a vs := x.imp_right fun ⟨n, h⟩ => ⟨n, hs _ h⟩
theorem Loc.base {h₀ : Heap} {a : Addr} {led : List (Addr × Obj)} {vs : List Value} (x : h₀.IsList a vs.toArray) : Loc h₀ led a vs := .inl x
theorem Loc.here {h₀ : Heap} {a : Addr} {led : List (Addr × Obj)} {vs : List Value} {n : Nat} (x : (a, listOf vs.toArray n) ∈ led) : Loc h₀ led a vs := .inr ⟨n, x⟩
end Mine
namespace Mine
open PySem PySem.W PySem.Calls PyProof.Rows PySem.Spec
/-- values that are pairs: a list of ints, an int -/
inductive PairsIn (h : Heap) (ext : List (Addr × Obj)) : List Value → List (List Int × Int) → Prop where
  | nil : PairsIn h ext [] []
  | cons {T a : Addr} {us vs : List Value} {xs : List Int} {d : Int} {t : Tok} {r : List (List Int × Int)} : (T, tupOf [.ref a, .int d t]) ∈ ext → Loc h ext a us → IntsAre us xs → PairsIn h ext vs r → PairsIn h ext (.ref T :: vs) ((xs, d) :: r)
theorem PairsIn.more {h : Heap} {ext ext' : List (Addr × Obj)} {vs : List Value} {r : List (List Int × Int)} (x : PairsIn h ext vs r) (hs : ∀ p ∈ ext, p ∈ ext') : PairsIn h ext' vs r := by
  induction x with
  | nil => exact .nil
  | cons h1 h2 h3 _ ih => exact .cons (hs _ h1) (h2.more hs) h3 ih
theorem PairsIn.snoc {h : Heap} {ext : List (Addr × Obj)} {vs us : List Value} {r : List (List Int × Int)} {T a : Addr} {xs : List Int} {d : Int} {t : Tok} (x : PairsIn h ext vs r)
    (h1 : (T, tupOf [.ref a, .int d t]) ∈ ext) (h2 : Loc h ext a us) (h3 : IntsAre us xs) : PairsIn h ext (vs ++ [.ref T]) (r ++ [(xs, d)]) := by
  induction x with
  | nil => exact .cons h1 h2 h3 .nil
  | cons g1 g2 g3 _ ih => exact .cons g1 g2 g3 ih
theorem PairsIn.length {h : Heap} {ext : List (Addr × Obj)} {vs : List Value} {r : List (List Int × Int)} (x : PairsIn h ext vs r) : vs.length = r.length := by
  induction x with
  | nil => rfl
  | cons _ _ _ _ ih => simp [ih]
/-- a new list of pairs -/
noncomputable def NewDD (hx h : Heap) (r : List (List Int × Int)) (h' : Heap) (v : Value) : Prop :=
  ∃ l vs n ext, v = .ref l ∧ (∀ p ∈ ext, h.get? p.1 = none ∧ h'.get? p.1 = some p.2) ∧ (l, listOf (List.toArray vs) n) ∈ ext ∧ PairsIn hx ext vs r
end Mine
namespace Mine
open PySem PySem.W PySem.Calls PyProof.Rows PySem.Spec
theorem ne_of_news {news : List (Addr × Obj)} {l a : Addr} {o : Obj} (h : ∀ p ∈ news, p.1 ≠ l) (m : (a, o) ∈ news) : l ≠ a := fun e => h _ m e.symm
theorem mem_mid {X R : List (Addr × Obj)} {x : Addr × Obj} : ∀ p ∈ x :: (X ++ R), p ∈ X ++ x :: R := fun p hp => by
  rcases List.mem_cons.mp hp with rfl | hp
  · exact List.mem_append_right _ (.head _)
  · rcases List.mem_append.mp hp with h | h
    · exact List.mem_append_left _ h
    · exact List.mem_append_right _ (.tail _ h)
end Mine
namespace Mine
open PySem PySem.W PySem.Calls PyProof.Rows PySem.Spec
theorem split4 {h₀ h : Heap} {L : Addr} {a b c d x : Addr × Obj} {r : List (Addr × Obj)} (N : News h₀ L h (a :: b :: c :: d :: x :: r)) : ∃ X, X = [a, b, c, d] ∧ News h₀ L h (X ++ x :: r) := ⟨_, rfl, N⟩
theorem split7 {h₀ h : Heap} {L : Addr} {a b c d e f g x : Addr × Obj} {r : List (Addr × Obj)} (N : News h₀ L h (a :: b :: c :: d :: e :: f :: g :: x :: r)) : ∃ X, X = [a, b, c, d, e, f, g] ∧ News h₀ L h (X ++ x :: r) := ⟨_, rfl, N⟩
end Mine

namespace Mine
open PySem PySem.W PySem.Calls PyProof.Rows PySem.Spec
theorem Loc.isListX {hx h₀ h : Heap} {L a : Addr} {m : Str → Option Value} {led : List (Addr × Obj)} {vs : List Value} (x : Loc hx led a vs) (k : hx.StaysIn h₀) (F : Fr h₀ L h m) (N : News h₀ L h led) : h.IsList a vs.toArray := by
  rcases x with x | ⟨n, x⟩
  · exact Fr.lst F (x.at fun o e => k _ o e)
  · exact News.isList N x
end Mine
end
namespace Mine
theorem top_off_P1 : True := by
  w_top off
  trivial
end Mine
section
/-! the plain functions, over ints -/
namespace Mine
noncomputable def trimI : List Int → List Int
  | [] => []
  | x :: r => match trimI r with
    | [] => if x = 0 then [] else [x]
    | y :: s => x :: y :: s

theorem trimI_take : ∀ (xs : List Int) (k : Nat), k ≤ xs.length → (∀ j, k ≤ j → j < xs.length → xs.getD j 0 = 0) → (k = 0 ∨ xs.getD (k - 1) 0 ≠ 0) → trimI xs = xs.take k
  | [], k, h, _, _ => by simp [trimI]
  | x :: r, 0, _, hz, _ => by
    have ih := trimI_take r 0 (Nat.zero_le _) (fun j _ hj => by have := hz (j + 1) (Nat.zero_le _) (by simp; omega); simpa using this) (.inl rfl)
    have h0 : x = 0 := by simpa using hz 0 (Nat.le_refl _) (by simp)
    rw [List.take_zero] at ih
    simp [trimI, ih, h0]
  | x :: r, k + 1, hk, hz, hn => by
    have hk' : k ≤ r.length := by simpa using hk
    have hz' : ∀ j, k ≤ j → j < r.length → r.getD j 0 = 0 := fun j h1 h2 => by have := hz (j + 1) (by omega) (by simp; omega); simpa using this
    have hx : (x :: r).getD k 0 ≠ 0 := by
      rcases hn with h | h
      · cases h
      · simpa using h
    cases k with
    | zero =>
      have ih := trimI_take r 0 (Nat.zero_le _) hz' (.inl rfl)
      rw [List.take_zero] at ih
      have hx' : x ≠ 0 := by simpa using hx
      simp [trimI, ih, hx']
    | succ k =>
      have ih := trimI_take r (k + 1) hk' hz' (.inr (by simpa using hx))
      have hne : r.take (k + 1) ≠ [] := by
        cases r with
        | nil => simp at hk'
        | cons y s => simp
      rw [trimI, ih]
      cases h : r.take (k + 1) with
      | nil => exact absurd h hne
      | cons y s => simp [h]

theorem trimI_walk {xs : List Int} {k : Int} (h1 : k ≤ xs.length) (h2 : min (xs.length : Int) 0 ≤ k)
    (h3 : ∀ j : Int, k < j → j ≤ xs.length → (if 0 < j then (if (xs.getD (j - 1).toNat 0 == 0) = true then true else false) else false) = true)
    (h4 : (if 0 < k then (if (xs.getD (k - 1).toNat 0 == 0) = true then true else false) else false) = false) : trimI xs = xs.take k.toNat := by
  refine trimI_take xs k.toNat (by omega) (fun j hj hl => ?_) ?_
  · have := h3 (j + 1) (by omega) (by omega)
    have e : ((j : Int) + 1 - 1).toNat = j := by omega
    rw [if_pos (by omega), e] at this
    simpa using this
  · by_cases hk : 0 < k
    · right
      rw [if_pos hk] at h4
      have e : (k - 1).toNat = k.toNat - 1 := by omega
      rw [e] at h4
      simpa using h4
    · left; omega
end Mine
end
namespace Mine
theorem top_off_E0 : True := by
  w_top off
  trivial
end Mine
section
set_option maxRecDepth 100000
set_option linter.unusedVariables false
namespace Mine
open PySem PySem.W PySem.Calls PyProof.Rows PySem.Spec PyProof.Rows.LCg

/-- behind the element of a comprehension that changes nothing -/
noncomputable def ElEnd (h₀ : Heap) (L : Addr) (m : Str → Option Value) (s₁ : Shared) (led : List (Addr × Obj)) (P : Value → Prop) (y : Value) (s₂ : Shared) : Prop :=
  ∃ h' tk, s₂ = { s₁ with heap := h', toks := tk } ∧ Fr h₀ L h' m ∧ News h₀ L h' led ∧ P y
theorem ElEnd.intro {h₀ : Heap} {L : Addr} {m : Str → Option Value} {s₁ : Shared} {led : List (Addr × Obj)} {P : Value → Prop} {y : Value} {h' : Heap} {tk : Nat} (F : Fr h₀ L h' m) (N : News h₀ L h' led) (p : P y) :
    ElEnd h₀ L m s₁ led P y { s₁ with heap := h', toks := tk } := ⟨h', tk, rfl, F, N, p⟩

section
variable {prog : Program} {w : World} {A : Around} {E : Value → Shared → Prop} {s : Shared} {h₀ : Heap} {L : Addr} {m : Str → Option Value} {env : Env}

noncomputable def EnTurn (prog : Program) (w : World) (A : Around) (h₀ : Heap) (L : Addr) (m : Str → Option Value) (env : Env) (elt : Expr) (a b : Str) (scope : Scope) (cl : List (Str × Addr)) (s : Shared) (news : List (Addr × Obj)) (ns : List Int) (P : Nat → List Value → Prop) : Prop :=
  ∀ i ys (C : Addr) (oC : Obj) (D : Addr) m₂ h tk (own : List (Addr × Obj)) (E' : Value → Shared → Prop) t t', i < ns.length → P i ys → NsObj oC m₂ → m₂ a = some (.int (i : Int) t) → m₂ b = some (.int (ns.getD i 0) t') → Fr h₀ L h m →
    News h₀ L h ((C, oC) :: (D, lst ys) :: (news ++ own)) →
    wpAny (model prog w) A (eval elt (compEnvC scope cl C env)) (ElEnd h₀ L m { s with heap := h, toks := tk } ((C, oC) :: (D, lst ys) :: (news ++ own)) (fun y => P (i + 1) (ys ++ [y]))) E' { s with heap := h, toks := tk }

inductive EnI (s₂ : Shared) (h₀ : Heap) (L : Addr) (m : Str → Option Value) (e it l D C : Addr) (vs : List Value) (news : List (Addr × Obj)) (nl : Nat) (P : Nat → List Value → Prop) : Nat → Shared → Prop
  | mk (h' : Heap) (tk i : Nat) (ys : List Value) (m' : Str → Option Value) (hin : i ≤ nl) (hyl : ys.length = i) (hst : (∃ old, IsEnum h' e it i old) ∧ h'.IsListIter it l i ∧ h'.IsList l vs.toArray) (F' : Fr h₀ L h' m) (hn : h'.Ns C m')
      (N' : News h₀ L h' ((D, lst ys) :: news)) (hP : P i ys) : EnI s₂ h₀ L m e it l D C vs news nl P (nl + 1 - i) { s₂ with heap := h', toks := tk }

theorem enum_block {elt iter : Expr} {a b : Str} {pa pb tp : Pos} {kk : Nat} {scope : Scope} {cl : List (Str × Addr)} {pos : Pos} {s₂ : Shared} {e it l : Addr} {vs : List Value} {ns : List Int} {nl : Nat} {news : List (Addr × Obj)} {P : Nat → List Value → Prop}
    {RR : Value → Addr → Result → Shared → Prop} (hh : A.handled = none) (he : IsEnum s₂.heap e it 0 .none) (hit : s₂.heap.IsListIter it l 0) (hei : e ≠ it) (hmem : (l, listOf vs.toArray nl) ∈ news) (hi : IntsAre vs ns) (hsz : vs.length ≤ sizeLine)
    (hoff : ∀ p ∈ news, p.1 ≠ e ∧ p.1 ≠ it) (hcell : ∀ y ∈ scope.names, y.2 ≠ .cell) (hkind : scope.kind = .function) (hxa : scope.names.lookup a = some .local) (hxb : scope.names.lookup b = some .local) (hab : ¬ a = b)
    (F : Fr h₀ L s₂.heap m) (N : News h₀ L s₂.heap news) (he0 : h₀.get? e = none) (hit0 : h₀.get? it = none) (heL : e ≠ L) (hitL : it ≠ L)
    (hP : P 0 []) (turn : EnTurn prog w A h₀ L m env elt a b scope cl s₂ news ns P)
    (hRR : ∀ D C h tk m' ys, Fr h₀ L h m → News h₀ L h ((D, lst ys) :: news) → h.Ns C m' → h₀.get? C = none → C ≠ L → C ≠ D → (∀ p ∈ news, p.1 ≠ C) → (∀ p ∈ news, p.1 ≠ D) → P ns.length ys → RR (.ref D) C (.ok .next) { s₂ with heap := h, toks := tk }) :
    wpAny (model prog w) A (newList []) (fun acc s₃ => wpAny (model prog w) A (newFunctionEnv scope env.globals cl [] env.qual none .none (some env)) (fun cenv s₄ =>
      codeAny (model prog w) A (.compStart (.ListComp elt [⟨.Tuple [.Name a pa, .Name b pb] kk tp, iter, [], 0⟩] scope pos) 0 (.ref e) acc { cenv with scope := relabel scope env }) (RR acc cenv.locals) s₄) E s₃) E s₂ := by
  refine wpAny_newObj_type (wpAny_newFunctionEnv hcell (by intro y hy; simp at hy) (fun h₁ hns₁ hsb₁ => ?_) hkind)
  dsimp only at hns₁ hsb₁ ⊢
  generalize hH2 : s₂.heap.push { cls := .type "list", dict := none, data := .seq ([] : List Value).toArray } = H2 at hns₁ hsb₁ ⊢
  have hC : H2.objs.size = s₂.heap.objs.size + 1 := by rw [← hH2, Heap.size_push]
  generalize hCq : H2.objs.size = C at hns₁ hsb₁ hC ⊢
  generalize hDq : s₂.heap.objs.size = D at hC ⊢
  have hDC : D ≠ C := by rw [hC]; exact Nat.ne_of_lt (Nat.lt_succ_self _)
  have below : ∀ {c o}, s₂.heap.get? c = some o → c ≠ C ∧ c ≠ D := fun {c o} ho => by
    have := Heap.lt_size ho
    rw [hDq] at this
    exact ⟨by rw [hC]; exact Nat.ne_of_lt (Nat.lt_succ_of_lt this), Nat.ne_of_lt this⟩
  have old : ∀ b o, s₂.heap.get? b = some o → h₁.get? b = some o := fun b o e => hsb₁.extBut b o (below e).1 (Heap.get?_push_of_some _ (hH2 ▸ Heap.get?_push_of_some _ e))
  have hacc : h₁.get? D = some (lst []) := hsb₁.extBut _ _ hDC (Heap.get?_push_of_some _ (hDq ▸ hH2 ▸ Heap.get?_push_size _ rfl))
  have fresh₀ : ∀ c, s₂.heap.get? c = none → h₀.get? c = none := fun c hc => by
    cases e : h₀.get? c with
    | none => rfl
    | some o' => have := F.keep c o' e; rw [hc] at this; cases this
  have none_of : ∀ c, D ≤ c → s₂.heap.get? c = none := fun c hc => by
    cases e : s₂.heap.get? c with
    | none => rfl
    | some o' => have := Heap.lt_size e; rw [hDq] at this; exact absurd this (Nat.not_lt.mpr hc)
  have hD₀ : h₀.get? D = none := fresh₀ _ (none_of _ (Nat.le_refl _))
  have hC₀ : h₀.get? C = none := fresh₀ _ (none_of _ (by rw [hC]; exact Nat.le_succ _))
  obtain ⟨oL, _, _, hL, _⟩ := F.ns
  have hDL : D ≠ L := Ne.symm (below hL).2
  have hCL : C ≠ L := Ne.symm (below hL).1
  have hCe : e ≠ C ∧ e ≠ D := below he
  obtain ⟨oi, hoi, hoi'⟩ := hit
  have hCi : it ≠ C ∧ it ≠ D := below hoi
  have hCl : ∀ p ∈ news, p.1 ≠ C ∧ p.1 ≠ D := fun p hp => below (N p hp).1
  have hle := hoff _ hmem
  have hlC := hCl _ hmem
  have hsz' : vs.toArray.size = ns.length := by rw [List.size_toArray, hi.length]
  have W := WalksT.enumerate (prog := prog) (w := w) hh e it l hei hle.1 hle.2 vs.toArray
  rw [hsz'] at W
  have stl : ∀ {h : Heap}, News h₀ L h news → h.IsList l vs.toArray := fun {h} N => News.isList N hmem
  have loop : ∀ s₃ : Shared, s₃ = { s₂ with heap := h₁, toks := s₂.toks + ([] : List (Str × Value)).length } →
      codeAny (model prog w) A (.compLoop (.ListComp elt [⟨.Tuple [.Name a pa, .Name b pb] kk tp, iter, [], 0⟩] scope pos) 0 (.ref e) (.ref D) (compEnvC scope cl C env)) (RR (.ref D) C) s₃ := by
    rintro s₃ rfl
    refine kcp_loop (EnI s₂ h₀ L m e it l D C vs news ns.length P) ?_ (ns.length + 1)
      (EnI.mk h₁ _ 0 [] _ (Nat.zero_le _) rfl ⟨⟨_, old _ _ he⟩, ⟨oi, old _ _ hoi, hoi'⟩, stl (N.grown old)⟩ (F.keeps old) hns₁ (fun p hp => ?_) hP)
    · intro k s' hk
      obtain ⟨h', tk, i, ys, m', hin, hyl, hst', F', hn', N', hP'⟩ := hk
      by_cases hlt : i < ns.length
      · refine W.item i _ _ _ hlt hst' fun T vals h₂ tk₂ hPt hTsz hT hMd hk₂ => ?_
        obtain ⟨t, x, hx, rfl⟩ := hPt
        refine W.go _ _ _ i T _ _ _ hMd fun h₃ hst₃ hk₃ => ?_
        have hT₃ : h₃.IsTuple T #[.int i t, x] := hT.at fun o e => hk₃ T o (W.apart i T _ hMd) e
        obtain ⟨t', hx'⟩ := hi.get i (ns.getD i 0) (by simp [List.getD_eq_getElem?_getD, hlt])
        have hxv : x = .int (ns.getD i 0) t' := by
          have : vs[i]? = some x := by simpa using hx
          rw [hx'] at this; exact (Option.some.inj this).symm
        subst hxv
        have up₃ : ∀ c o, c ≠ e → c ≠ it → h'.get? c = some o → h₃.get? c = some o := fun c o h1 h2 e => hk₃ c o (by simp [h1, h2]) (hk₂ c o (by simp [h1, h2]) e)
        refine kcp_assign (env := compEnvC scope cl C env) hh hT₃ (lookup_relabel_local hxa) (lookup_relabel_local hxb) (by simp [compEnvC, relabel, hkind]) (hn'.at' fun o e => up₃ _ o (Ne.symm hCe.1) (Ne.symm hCi.1) e) fun h₄ tk₄ hn₄ hs₄ => ?_
        have up : ∀ c o, c ≠ e → c ≠ it → c ≠ C → h'.get? c = some o → h₄.get? c = some o := fun c o h1 h2 h3 e => hs₄ c o h3 (up₃ c o h1 h2 e)
        have hst₄ : (∃ old, IsEnum h₄ e it ((i + 1 : Nat) : Int) old) ∧ h₄.IsListIter it l (i + 1) ∧ h₄.IsList l vs.toArray := W.frame _ _ _ hst₃ fun b hb o eb => hs₄ b o (fun q => by
          have q' : b = C := q
          subst q'
          rcases List.mem_cons.mp hb with q | hb
          · exact hCe.1 q.symm
          rcases List.mem_cons.mp hb with q | hb
          · exact hCi.1 q.symm
          · exact hlC.1 (List.mem_singleton.mp hb).symm) eb
        obtain ⟨⟨old₄, hE₄⟩, ⟨oj, hoj, hoj'⟩, hl₄⟩ := hst₄
        obtain ⟨oe, heo⟩ : ∃ oe : Obj, h₄.get? e = some oe := ⟨_, hE₄⟩
        obtain ⟨oC, heC, hoC⟩ := ns_obj hn₄
        have keep₄ : ∀ c o, h₀.get? c = some o → h₄.get? c = some o := fun c o hc => up c o (fun q => by rw [q, he0] at hc; cases hc) (fun q => by rw [q, hit0] at hc; cases hc) (fun q => by rw [q, hC₀] at hc; cases hc) (F'.keep c o hc)
        have F₄ : Fr h₀ L h₄ m := ⟨F'.ns.at' fun o ho => up _ o (Ne.symm heL) (Ne.symm hitL) (Ne.symm hCL) ho, keep₄, F'.above⟩
        have N₄ : News h₀ L h₄ ((C, oC) :: (D, lst ys) :: (news ++ [(e, oe), (it, oj)])) := fun q hq => by
          rcases List.mem_cons.mp hq with rfl | hq
          · exact ⟨heC, hCL, hC₀⟩
          rcases List.mem_cons.mp hq with rfl | hq
          · have z := N' _ (List.Mem.head _)
            exact ⟨up _ _ (Ne.symm hCe.2) (Ne.symm hCi.2) hDC z.1, z.2⟩
          rcases List.mem_append.mp hq with hq | hq
          · have z := N' _ (List.Mem.tail _ hq)
            exact ⟨up _ _ (hoff _ hq).1 (hoff _ hq).2 (hCl _ hq).1 z.1, z.2⟩
          rcases List.mem_cons.mp hq with rfl | hq
          · exact ⟨heo, heL, he0⟩
          · rw [List.mem_singleton.mp hq]
            exact ⟨hoj, hitL, hit0⟩
        refine wpAny_mono (turn i ys C oC D _ h₄ _ [(e, oe), (it, oj)] _ t t' hlt hP' hoC (by simp [hab]) (by simp) F₄ N₄) (fun y s₅ h₅ => ?_) fun _ _ e => e
        obtain ⟨h₅, tk₅, rfl, F₅, N₅, hP₅⟩ := h₅
        have zC := (N₅ (C, oC) (.head _)).1
        have zD := (N₅ (D, lst ys) (.tail _ (.head _))).1
        have Nn : News h₀ L h₅ news := fun q hq => N₅ q (.tail _ (.tail _ (List.mem_append_left _ hq)))
        have ze : h₅.get? e = some oe := (N₅ (e, oe) (.tail _ (.tail _ (List.mem_append_right _ (.head _))))).1
        have zi : h₅.get? it = some oj := (N₅ (it, oj) (.tail _ (.tail _ (List.mem_append_right _ (.tail _ (.head _)))))).1
        refine append_at (hsz := by show ys.toArray.size ≤ sizeLine; rw [List.size_toArray, hyl]; have := hi.length; omega) zD fun h₆ hs₆ hD₆ => ?_
        have N₆ : News h₀ L h₆ news := fun q hq => ⟨hs₆.extBut _ _ (hCl _ hq).2 (Nn q hq).1, (Nn q hq).2⟩
        refine ⟨ns.length + 1 - (i + 1), by omega, EnI.mk h₆ tk₅ (i + 1) (ys ++ [y]) _ hlt (by rw [List.length_append, List.length_singleton, hyl]) ⟨⟨old₄, ?_⟩, ⟨oj, hs₆.extBut _ _ hCi.2 zi, hoj'⟩, stl N₆⟩ (F₅.change hs₆ hDL hD₀) ((hoC.ns zC).sameBut hs₆ (Ne.symm hDC)) (fun q hq => ?_) hP₅⟩
        · have : oe = _ := Option.some.inj (heo.symm.trans hE₄)
          exact hs₆.extBut _ _ hCe.2 (ze.trans (congrArg some this))
        · rcases List.mem_cons.mp hq with rfl | hq
          · exact ⟨hD₆.trans (congrArg some (lst_snoc ys y)), hDL, hD₀⟩
          · exact N₆ q hq
      · obtain rfl : i = ns.length := Nat.le_antisymm hin (Nat.not_lt.mp hlt)
        refine W.done _ _ _ hst' fun h₂ tk₂ hk₂ => ?_
        have up : ∀ c o, c ≠ e → c ≠ it → h'.get? c = some o → h₂.get? c = some o := fun c o h1 h2 e => hk₂ c o (by simp [h1, h2]) e
        refine hRR _ _ h₂ tk₂ _ ys ⟨F'.ns.at' fun o ho => up _ o (Ne.symm heL) (Ne.symm hitL) ho, fun c o hc => up c o (fun q => by rw [q, he0] at hc; cases hc) (fun q => by rw [q, hit0] at hc; cases hc) (F'.keep c o hc), F'.above⟩ (fun p hp => ?_)
          (hn'.at' fun o ho => up _ o (Ne.symm hCe.1) (Ne.symm hCi.1) ho) hC₀ hCL (Ne.symm hDC) (fun p hp => (hCl p hp).1) (fun p hp => (hCl p hp).2) hP'
        rcases List.mem_cons.mp hp with rfl | hp
        · have z := N' _ (List.Mem.head _)
          exact ⟨up _ _ (Ne.symm hCe.2) (Ne.symm hCi.2) z.1, z.2⟩
        · have z := N' _ (List.Mem.tail _ hp)
          exact ⟨up _ _ (hoff _ hp).1 (hoff _ hp).2 z.1, z.2⟩
    · rcases List.mem_cons.mp hp with rfl | hp
      · exact ⟨hacc, hDL, hD₀⟩
      · exact ⟨old _ _ (N p hp).1, (N p hp).2⟩
  have sf : ∀ {Q : Value → Shared → Prop} {E : Value → Shared → Prop} {s : Shared}, IsEnum s.heap e it 0 .none → Q (.ref e) s → wpAny (model prog w) A (pyIter (.ref e)) Q E s := fun hE hQ => wpAny_pyIter_enum hE hQ
  exact codeAny_compStart_list (loop _ rfl) (sf (old _ _ he) (loop _ rfl))

inductive EnSrc (prog : Program) (w : World) (A : Around) (h₀ : Heap) (L : Addr) (m : Str → Option Value) (env : Env) (elt : Expr) (a b : Str) (scope : Scope) (cl : List (Str × Addr)) (Q : Value → Shared → Prop) (s₁ : Shared) : Value → Prop
  | mk {e it l : Addr} {vs : List Value} {ns : List Int} {nl : Nat} {news : List (Addr × Obj)} {P : Nat → List Value → Prop} (hh : A.handled = none) (he : IsEnum s₁.heap e it 0 .none) (hit : s₁.heap.IsListIter it l 0) (hei : e ≠ it) (hmem : (l, listOf vs.toArray nl) ∈ news) (hi : IntsAre vs ns) (hsz : vs.length ≤ sizeLine)
    (hoff : ∀ p ∈ news, p.1 ≠ e ∧ p.1 ≠ it) (F : Fr h₀ L s₁.heap m) (N : News h₀ L s₁.heap news) (he0 : h₀.get? e = none) (hit0 : h₀.get? it = none) (heL : e ≠ L) (hitL : it ≠ L) (hP : P 0 []) (turn : EnTurn prog w A h₀ L m env elt a b scope cl s₁ news ns P)
    (done : ∀ D h tk ys, Fr h₀ L h m → News h₀ L h ((D, lst ys) :: news) → (∀ p ∈ news, p.1 ≠ D) → P ns.length ys → Q (.ref D) { s₁ with heap := h, toks := tk }) : EnSrc prog w A h₀ L m env elt a b scope cl Q s₁ (.ref e)

theorem comp_enum {elt iter : Expr} {a b : Str} {pa pb tp : Pos} {kk : Nat} {scope : Scope} {cl : List (Str × Addr)} {pos : Pos} {Q : Value → Shared → Prop} (_F₀ : Fr h₀ L s.heap m)
    (hclos : closureFor scope env = pure cl) (hcell : ∀ y ∈ scope.names, y.2 ≠ .cell) (hkind : scope.kind = .function)
    (hnames : ∀ y ∈ scope.names, y.2 = .local → scope.names.lookup y.1 = some .local) (hxa : scope.names.lookup a = some .local) (hxb : scope.names.lookup b = some .local) (hab : ¬ a = b)
    (h : wpAny (model prog w) A (eval iter env) (fun xv s₁ => EnSrc prog w A h₀ L m env elt a b scope cl Q s₁ xv) E s)
    (hs : ∀ x, foldedSetIterable iter env x = pure x := by intro _; rfl) :
    wpAny (model prog w) A (eval (.ListComp elt [⟨.Tuple [.Name a pa, .Name b pb] kk tp, iter, [], 0⟩] scope pos) env) Q E s := by
  rw [eval_ListComp]
  refine wpAny_comprehension_free (use := none) rfl hs hclos hkind hnames (wpAny_mono h (fun xv s₁ h₁ => ?_) fun _ _ e => e)
  obtain ⟨hh, he, hit, hei, hmem, hi, hsz, hoff, F, N, he0, hit0, heL, hitL, hP, turn, done⟩ := h₁
  refine wpAny_pyIter_enum he ?_
  refine enum_block hh he hit hei hmem hi hsz hoff hcell hkind hxa hxb hab F N he0 hit0 heL hitL hP turn ?_
  intro D C h tk m' ys F' N' hn hC₀ hCL hCD offC offD fin
  refine ⟨m', hn, fun h'' hs'' => done D h'' tk ys (F'.change hs'' hCL hC₀) (fun p hp => ?_) offD fin⟩
  refine ⟨hs''.extBut _ _ ?_ (N' p hp).1, (N' p hp).2⟩
  rcases List.mem_cons.mp hp with rfl | hp
  · exact Ne.symm hCD
  · exact offC p hp

theorem enum_src {elt : Expr} {a b : Str} {scope : Scope} {cl : List (Str × Addr)} {Q : Value → Shared → Prop} {l : Addr} {vs : List Value} {ns : List Int} {nl : Nat} {news : List (Addr × Obj)} (P : Nat → List Value → Prop)
    (hh : A.handled = none) (F : Fr h₀ L s.heap m) (N : News h₀ L s.heap news) (hmem : (l, listOf vs.toArray nl) ∈ news) (hi : IntsAre vs ns) (hsz : vs.length ≤ sizeLine) (hP : P 0 [])
    (turn : ∀ g, EnTurn prog w A h₀ L m env elt a b scope cl { s with heap := g } news ns P)
    (done : ∀ D h tk ys, Fr h₀ L h m → News h₀ L h ((D, lst ys) :: news) → (∀ p ∈ news, p.1 ≠ D) → P ns.length ys → Q (.ref D) { s with heap := h, toks := tk }) :
    wpAny (model prog w) A (call (.type "enumerate") [.ref l]) (fun xv s₁ => EnSrc prog w A h₀ L m env elt a b scope cl Q s₁ xv) E s := by
  refine call_enumerate_list (News.isList N hmem) fun h' hE hI hsz' hkk => ?_
  have lt : ∀ c o, s.heap.get? c = some o → c ≠ s.heap.objs.size + 1 ∧ c ≠ s.heap.objs.size := fun c o ho => ⟨Nat.ne_of_lt (Nat.lt_succ_of_lt (Heap.lt_size ho)), Nat.ne_of_lt (Heap.lt_size ho)⟩
  obtain ⟨oL, _, _, hL, _⟩ := F.ns
  exact EnSrc.mk hh hE hI (Nat.succ_ne_self _) hmem hi hsz (fun p hp => lt _ _ (N p hp).1) (F.keeps hkk) (N.grown hkk) (ktu_new F (Nat.le_succ _)) (ktu_new F (Nat.le_refl _)) (Ne.symm (lt _ _ hL).1) (Ne.symm (lt _ _ hL).2) hP (turn h') done
end
end Mine
end
namespace Mine
theorem top_off_E1 : True := by
  w_top off
  trivial
end Mine
section
set_option maxRecDepth 100000
set_option linter.unusedVariables false
namespace Mine
open PySem PySem.W PySem.Calls PyProof.Rows PySem.Spec PyProof.Rows.LCg PyProof.Rows.LCt
section
variable {prog : Program} {w : World} {A : Around} {E : Value → Shared → Prop} {s : Shared} {h₀ : Heap} {L : Addr} {m : Str → Option Value} {env : Env}

noncomputable def FlTurn (prog : Program) (w : World) (A : Around) (h₀ : Heap) (L : Addr) (m : Str → Option Value) (env : Env) (ct elt : Expr) (x : Str) (scope : Scope) (cl : List (Str × Addr)) (s : Shared) (news : List (Addr × Obj)) (vs : List Value) (P : Nat → List Value → Prop) : Prop :=
  ∀ i ys v (I : Addr) (oI : Obj) (C : Addr) (oC : Obj) (D : Addr) m₂ h tk (E' : Value → Shared → Prop), vs[i]? = some v → P i ys → NsObj oC m₂ → m₂ x = some v → Fr h₀ L h m →
    News h₀ L h ((I, oI) :: (C, oC) :: (D, lst ys) :: news) →
    wpAny (model prog w) A (isTrue ct (compEnvC scope cl C env) (eval ct (compEnvC scope cl C env))) (fun ok s' => if ok = true then
      wpAny (model prog w) A (eval elt (compEnvC scope cl C env)) (ElEnd h₀ L m { s with heap := h, toks := tk } ((I, oI) :: (C, oC) :: (D, lst ys) :: news) (fun y => P (i + 1) (ys ++ [y]))) E' s'
      else ElEnd h₀ L m { s with heap := h, toks := tk } ((I, oI) :: (C, oC) :: (D, lst ys) :: news) (fun _ => P (i + 1) ys) .none s') E' { s with heap := h, toks := tk }

theorem fl_rest {ct elt : Expr} {x : Str} {scope : Scope} {cl : List (Str × Addr)} {news : List (Addr × Obj)} {vs : List Value} {P : Nat → List Value → Prop} {l : Addr} {nl : Nat} {Fin : List Value → List (Addr × Obj) → Prop}
    (hmem : (l, listOf vs.toArray nl) ∈ news) (turn : FlTurn prog w A h₀ L m env ct elt x scope cl s news vs P) (fin : ∀ ys, P vs.length ys → Fin ys news) :
    ∀ k i ys, i + k = vs.length → P i ys → CompRestT prog w A h₀ L m env ct elt x scope cl s (SrcAt h₀ l vs.toArray) (fun i v => vs.toArray[i]? = some v) Fin k i ys news := by
  intro k
  induction k with
  | zero => intro i ys hi hp; exact fin ys (by rw [← hi]; exact hp)
  | succ k ih =>
    intro i ys hi hp
    refine CompRestT.succ fun v I oI C oC D m₂ h tk E' hP hC hx F N off ne => ?_
    refine wpAny_mono (turn i ys v I oI C oC D m₂ h tk E' (by simpa using hP) hp hC hx F N) (fun ok s' h1 => ?_) fun _ _ e => e
    have src : SrcAt h₀ l vs.toArray news := .inr ⟨_, hmem, rfl, _, rfl⟩
    cases ok with
    | true =>
      simp only [if_true] at h1 ⊢
      refine wpAny_mono h1 (fun y s₄ h2 => ?_) fun _ _ e => e
      obtain ⟨h', tk', rfl, F', N', p'⟩ := h2
      exact ⟨h', tk', news, rfl, F', N', off, src, ih (i + 1) _ (by omega) p'⟩
    | false =>
      simp only [Bool.false_eq_true, if_false] at h1 ⊢
      obtain ⟨h', tk', rfl, F', N', p'⟩ := h1
      exact ⟨h', tk', news, rfl, F', N', off, src, ih (i + 1) _ (by omega) p'⟩

noncomputable def FlSrc (prog : Program) (w : World) (A : Around) (h₀ : Heap) (L : Addr) (m : Str → Option Value) (env : Env) (ct elt : Expr) (x : Str) (scope : Scope) (cl : List (Str × Addr)) (Q : Value → Shared → Prop) (xv : Value) (s₁ : Shared) : Prop :=
  ∃ (l : Addr) (vs : List Value) (nl : Nat) (news : List (Addr × Obj)) (P : Nat → List Value → Prop), xv = .ref l ∧ A.handled = none ∧ (l, listOf vs.toArray nl) ∈ news ∧ vs.length ≤ sizeLine ∧
    Fr h₀ L s₁.heap m ∧ News h₀ L s₁.heap news ∧ P 0 [] ∧ (∀ g, FlTurn prog w A h₀ L m env ct elt x scope cl { s₁ with heap := g } news vs P) ∧
    ∀ D h tk ys, Fr h₀ L h m → News h₀ L h ((D, lst ys) :: news) → (∀ p ∈ news, p.1 ≠ D) → P vs.length ys → Q (.ref D) { s₁ with heap := h, toks := tk }

theorem off1_mem {D : Addr} : ∀ {l : List (Addr × Obj)}, Off1 D l → ∀ p ∈ l, p.1 ≠ D
  | [], _, _, h => nomatch h
  | _ :: _, x, p, h => by
    rcases List.mem_cons.mp h with rfl | h
    · exact x.1
    · exact off1_mem x.2 p h

theorem comp_filter {ct elt iter : Expr} {x : Str} {px : Pos} {scope : Scope} {cl : List (Str × Addr)} {pos : Pos} {Q : Value → Shared → Prop} (F₀ : Fr h₀ L s.heap m)
    (hclos : closureFor scope env = pure cl) (hcell : ∀ y ∈ scope.names, y.2 ≠ .cell) (hkind : scope.kind = .function)
    (hnames : ∀ y ∈ scope.names, y.2 = .local → scope.names.lookup y.1 = some .local) (hx : scope.names.lookup x = some .local)
    (h : wpAny (model prog w) A (eval iter env) (FlSrc prog w A h₀ L m env ct elt x scope cl Q) E s)
    (hs : ∀ x, foldedSetIterable iter env x = pure x := by intro _; rfl) :
    wpAny (model prog w) A (eval (.ListComp elt [⟨.Name x px, iter, [ct], 0⟩] scope pos) env) Q E s := by
  refine ListComp_T F₀ hclos hcell hkind hnames hx (wpAny_mono h (fun xv s₁ h₁ => ?_) fun _ _ e => e) hs
  obtain ⟨l, vs, nl, news, P, rfl, hh, hmem, hsz, F, N, hP, turn, done⟩ := h₁
  refine CompSrcT.ledger (k := nl) hh F N hmem (by rw [List.size_toArray]; exact hsz) fun g => ?_
  rw [List.size_toArray]
  exact fl_rest hmem (turn g) (fun ys hp D h tk F' N' o => done D h tk ys F' N' (off1_mem o) hp) _ 0 [] (Nat.zero_add _) hP
end
section
/-- for x in range(..), x a cell: its storing is left to the walk -/
theorem for_rangeA {σ : Type} {prog : Program} {w : World} {A : Around} {E : Value → Shared → Prop} {s : Shared} {env : Env} {h₀ : Heap} {body : List Stmt} {Q : Flow → Shared → Prop} {x : Str} {px : Pos} (Led : σ → List (Addr × Obj)) (ps : σ → List (Str × Value)) (stored : List Str) (P : Nat → σ → Prop) (c₀ : σ) {m₀ : Str → Option Value}
    {r : Addr} {a₀ b₀ st₀ : Int} {t₀ u₀ v₀ : Tok} {n : Nat}
    (hh : A.handled = none) (hr : IsRange s.heap r a₀ b₀ st₀ t₀ u₀ v₀) (hsmall : Builtin.Range.small a₀ b₀ st₀ = true) (hn : Builtin.Range.rangeSize a₀ b₀ st₀ = (n : Int))
    (F : Fr h₀ env.locals s.heap m₀) (N : News h₀ env.locals s.heap (Led c₀)) (hk : ∀ p ∈ ps c₀, m₀ p.1 = some p.2) (hp : P 0 c₀)
    (turn : ∀ c i t u h tk own, i < n → OwnOff own ((Led c).map (·.1)) → P i c → Fr h₀ env.locals h (mapB stored u m₀ (ps c)) → News h₀ env.locals h (Led c ++ own) →
      ∀ R : Flow → Shared → Prop, (∀ f s', TurnPost h₀ env.locals Led ps stored m₀ (P (i + 1)) own { s with heap := h, toks := tk } Q f s' → R f s') →
      wpAny (model prog w) A (storeName env x (.int (a₀ + (i : Int) * st₀) t)) (fun _ s₃ => wpAny (model prog w) A (execs body env) R E s₃) E { s with heap := h, toks := tk })
    (done : ∀ c u h tk, P n c → Fr h₀ env.locals h (mapB stored u m₀ (ps c)) → News h₀ env.locals h (Led c) → Q .next { s with heap := h, toks := tk }) :
    wpAny (model prog w) A (pyIter (.ref r)) (fun it s₂ => TurnsAt prog w A h₀ env (.Name x px) body Q E it s₂) E s := by
  refine wpAny_pyIter_range hr hsmall ?_
  have W : KTurns prog w A (.Name x px) s.heap.objs.size [s.heap.objs.size] [s.heap.objs.size] n _ _ (fun i h => IsRangeIter h s.heap.objs.size (a₀ + (i : Nat) * st₀) ((n : Int) - (i : Nat)) st₀) :=
    KTurns.ofWalks (Walks.range hh s.heap.objs.size a₀ st₀ n) fun i v s' Q' E' _ hq => wpAny_pure hq
  refine for_core (s₂ := { s with heap := s.heap.push { cls := .type "range_iterator", data := .fields #[rawInt a₀, rawInt (Builtin.Range.rangeSize a₀ b₀ st₀), rawInt st₀] } })
    Led ps stored P c₀ W ?_ ?_ (fun b hb => .inl hb) ?_ ?_ (by show IsRangeIter _ _ _ _ _; rw [hn]; simpa using Heap.get?_push_size _ rfl) (F.push _) (fun p hp => ⟨Heap.get?_push_of_some _ (N p hp).1, (N p hp).2⟩) hk hp ?_ ?_
  · intro hm
    exact absurd F.ns.lt ((List.mem_singleton.mp hm) ▸ Nat.lt_irrefl _)
  · intro b hb
    rw [List.mem_singleton.mp hb]
    exact next_is_new F
  · intro p hp hI
    exact absurd (Heap.lt_size (N p hp).1) ((List.mem_singleton.mp hI) ▸ Nat.lt_irrefl _)
  · intro i h st b hb
    rw [List.mem_singleton.mp hb]
    exact ⟨_, st⟩
  · rintro c i v u h tk own hi ⟨t, rfl⟩ hoff hp' F₁ N₁
    exact wpAny_assign_Name (turn c i t u h _ own hi hoff hp' F₁ N₁ _ (fun _ _ q => q))
  · exact fun c u h tk hp' F' N' => done c u h tk hp' F' N'
end

/-! rows of ints as data -/
noncomputable def intsD (r : List Int) : PyData := .list (r.map .int)
noncomputable def rowsD (R : List (List Int)) : PyData := .list (R.map intsD)
noncomputable def pairD (x : List Int × Int) : PyData := .tuple [intsD x.1, .int x.2]
noncomputable def pairsD (R : List (List Int × Int)) : PyData := .list (R.map pairD)
theorem rows_lay : ∀ R : List (List Int), PyData.canLayAll0 (R.map intsD) = true ∧ PyData.depthAll (R.map intsD) ≤ 1
  | [] => ⟨rfl, by simp [PyData.depthAll]⟩
  | r :: R => by
    have ih := rows_lay R
    simp only [List.map_cons, PyData.canLayAll0, PyData.depthAll, intsD, PyData.canLay0, PyData.depth, canLayAll0_ints, Bool.true_and]
    exact ⟨ih.1, by have := ke_depthAll r; omega⟩
theorem rows_shaped (R : List (List Int)) : SeqAt.shaped (rowsD R) = true := by
  have := rows_lay R
  simp only [SeqAt.shaped, rowsD, PyData.canLay0, PyData.depth, this.1, Bool.true_and, decide_eq_true_eq]
  omega
theorem pairs_lay : ∀ R : List (List Int × Int), PyData.canLayAll0 (R.map pairD) = true ∧ PyData.depthAll (R.map pairD) ≤ 3
  | [] => ⟨rfl, by simp [PyData.depthAll]⟩
  | r :: R => by
    have ih := pairs_lay R
    have h1 := ke_depthAll r.1
    simp only [List.map_cons, PyData.canLayAll0, PyData.depthAll, pairD, intsD, PyData.canLay0, PyData.depth, canLayAll0_ints, Bool.true_and, h1]
    exact ⟨ih.1, by have := ih.2; omega⟩
theorem pairs_shaped (R : List (List Int × Int)) : SeqAt.shaped (pairsD R) = true := by
  have := pairs_lay R
  simp only [SeqAt.shaped, pairsD, PyData.canLay0, PyData.depth, this.1, Bool.true_and, decide_eq_true_eq]
  omega
theorem pairs_eqvAll : ∀ R S : List (List Int × Int), PyData.eqvAll (R.map pairD) (S.map pairD) = decide (R = S)
  | [], [] => by simp [PyData.eqvAll]
  | [], _ :: _ => by simp [PyData.eqvAll]
  | _ :: _, [] => by simp [PyData.eqvAll]
  | (a, c) :: r, (b, d) :: t => by
    simp only [List.map_cons, PyData.eqvAll, pairD, intsD, PyData.eqv, ked_eqvAll, pairs_eqvAll r t]
    by_cases h : a = b <;> by_cases h' : c = d <;> by_cases h'' : r = t <;> simp [h, h', h'']
theorem pairs_eqv (R S : List (List Int × Int)) : PyData.eqv (pairsD R) (pairsD S) = decide (R = S) := by
  simp only [PyData.eqv, pairsD]; exact pairs_eqvAll R S
theorem rows_eqv (R : List (List Int)) : PyData.eqv (rowsD R) (.list []) = decide (R = []) := by
  cases R with
  | nil => simp [PyData.eqv, rowsD, PyData.eqvAll]
  | cons r R => simp [PyData.eqv, rowsD, PyData.eqvAll]

/-- values that are lists of ints -/
inductive RowsIn (led : List (Addr × Obj)) : List Value → List (List Int) → Prop where
  | nil : RowsIn led [] []
  | cons {a : Addr} {us vs : List Value} {n : Nat} {xs : List Int} {r : List (List Int)} : (a, listOf us.toArray n) ∈ led → IntsAre us xs → RowsIn led vs r → RowsIn led (.ref a :: vs) (xs :: r)
theorem RowsIn.more {led led' : List (Addr × Obj)} {vs : List Value} {r : List (List Int)} (x : RowsIn led vs r) (hs : ∀ p ∈ led, p ∈ led') : RowsIn led' vs r := by
  induction x with
  | nil => exact .nil
  | cons h1 h2 _ ih => exact .cons (hs _ h1) h2 ih
theorem RowsIn.snoc {led : List (Addr × Obj)} {vs us : List Value} {r : List (List Int)} {a : Addr} {n : Nat} {xs : List Int} (x : RowsIn led vs r) (h1 : (a, listOf us.toArray n) ∈ led) (h2 : IntsAre us xs) : RowsIn led (vs ++ [.ref a]) (r ++ [xs]) := by
  induction x with
  | nil => exact .cons h1 h2 .nil
  | cons g1 g2 _ ih => exact .cons g1 g2 ih
theorem RowsIn.length {led : List (Addr × Obj)} {vs : List Value} {r : List (List Int)} (x : RowsIn led vs r) : vs.length = r.length := by
  induction x with
  | nil => rfl
  | cons _ _ _ ih => simp [ih]
theorem RowsIn.get {led : List (Addr × Obj)} {vs : List Value} {r : List (List Int)} (x : RowsIn led vs r) : ∀ (i : Nat) (v : Value), vs[i]? = some v → ∃ a us n xs, v = .ref a ∧ (a, listOf (List.toArray us) n) ∈ led ∧ IntsAre us xs ∧ r[i]? = some xs := by
  induction x with
  | nil => intro i v h; simp at h
  | cons g1 g2 _ ih =>
    intro i v h
    cases i with
    | zero => exact ⟨_, _, _, _, by simpa using h.symm, g1, g2, rfl⟩
    | succ i => exact ih i v (by simpa using h)
theorem RowsIn.reads {led : List (Addr × Obj)} {h₀ h : Heap} {L : Addr} {vs : List Value} {r : List (List Int)} (x : RowsIn led vs r) (N : News h₀ L h led) : ∃ as, ReadsAll h vs (r.map intsD) as := by
  induction x with
  | nil => exact ⟨_, .nil⟩
  | cons g1 g2 _ ih =>
    obtain ⟨as, ih⟩ := ih
    exact ⟨_, .cons (reads_of_ints (News.isList N g1) g2) ih⟩
theorem rows_read {led : List (Addr × Obj)} {h₀ h : Heap} {L D : Addr} {n : Nat} {vs : List Value} {r : List (List Int)} (x : RowsIn led vs r) (N : News h₀ L h led) (hD : h.get? D = some (listOf vs.toArray n)) : ∃ as, Reads h (.ref D) (rowsD r) as := by
  obtain ⟨as, ra⟩ := x.reads N
  exact ⟨_, Reads.list hD rfl rfl (by simpa using ra)⟩
theorem PairsIn.reads {led : List (Addr × Obj)} {hx h₀ h : Heap} {L : Addr} {vs : List Value} {r : List (List Int × Int)} (x : PairsIn hx led vs r) (k : hx.StaysIn h) (N : News h₀ L h led) : ∃ as, ReadsAll h vs (r.map pairD) as := by
  induction x with
  | nil => exact ⟨_, .nil⟩
  | cons g1 g2 g3 _ ih =>
    obtain ⟨as, ih⟩ := ih
    have gl : h.IsList _ _ := g2.elim (fun x => x.at fun o e => k _ o e) (fun ⟨n, x⟩ => News.isList N x)
    exact ⟨_, .cons (Reads.tuple (N _ g1).1 rfl rfl (.cons (reads_of_ints gl g3) (.cons (.int _ _) .nil))) ih⟩
theorem pairs_read {led : List (Addr × Obj)} {hx h₀ h : Heap} {L D : Addr} {n : Nat} {vs : List Value} {r : List (List Int × Int)} (x : PairsIn hx led vs r) (k : hx.StaysIn h) (N : News h₀ L h led) (hD : h.get? D = some (listOf vs.toArray n)) :
    ∃ as, Reads h (.ref D) (pairsD r) as := by
  obtain ⟨as, ra⟩ := x.reads k N
  exact ⟨_, Reads.list hD rfl rfl (by simpa using ra)⟩
end Mine
end
namespace Mine
theorem top_off_E2 : True := by
  w_top off
  trivial
end Mine
section
set_option maxRecDepth 100000
set_option linter.unusedVariables false
namespace Mine
open PySem PySem.W PySem.Calls PyProof.Rows PySem.Spec PyProof.Rows.LCg
section
variable {prog : Program} {w : World} {A : Around} {E : Value → Shared → Prop} {s : Shared} {h₀ : Heap} {L : Addr} {m : Str → Option Value} {env : Env}
noncomputable def MpEnd (h₀ : Heap) (L : Addr) (m : Str → Option Value) (s : Shared) (I : Addr) (oI : Obj) (C : Addr) (oC : Obj) (D : Addr) (ys : List Value) (news : List (Addr × Obj)) (P : List Value → List (Addr × Obj) → Prop) (y : Value) (s₄ : Shared) : Prop :=
  ∃ h' tk' ex', s₄ = { s with heap := h', toks := tk' } ∧ Fr h₀ L h' m ∧ News h₀ L h' ((I, oI) :: (C, oC) :: (D, lst ys) :: (ex' ++ news)) ∧ Off3 I C D (ex' ++ news) ∧ P (ys ++ [y]) ex'
theorem MpEnd.intro {h₀ : Heap} {L : Addr} {m : Str → Option Value} {s : Shared} {I : Addr} {oI : Obj} {C : Addr} {oC : Obj} {D : Addr} {ys : List Value} {news : List (Addr × Obj)} {P : List Value → List (Addr × Obj) → Prop} {y : Value} {h' : Heap} {tk' : Nat} (ex' : List (Addr × Obj))
    (F : Fr h₀ L h' m) (N : News h₀ L h' ((I, oI) :: (C, oC) :: (D, lst ys) :: (ex' ++ news))) (o : Off3 I C D (ex' ++ news)) (p : P (ys ++ [y]) ex') : MpEnd h₀ L m s I oI C oC D ys news P y { s with heap := h', toks := tk' } := ⟨h', tk', ex', rfl, F, N, o, p⟩
noncomputable def MpTurn (prog : Program) (w : World) (A : Around) (h₀ : Heap) (L : Addr) (m : Str → Option Value) (env : Env) (elt : Expr) (x : Str) (scope : Scope) (cl : List (Str × Addr)) (s : Shared) (news : List (Addr × Obj)) (vs : List Value) (P : Nat → List Value → List (Addr × Obj) → Prop) : Prop :=
  ∀ i ys v ex (I : Addr) (oI : Obj) (C : Addr) (oC : Obj) (D : Addr) m₂ h tk (E' : Value → Shared → Prop), vs[i]? = some v → P i ys ex → NsObj oC m₂ → m₂ x = some v → Fr h₀ L h m →
    News h₀ L h ((I, oI) :: (C, oC) :: (D, lst ys) :: (ex ++ news)) → Off3 I C D (ex ++ news) →
    wpAny (model prog w) A (eval elt (compEnvC scope cl C env)) (MpEnd h₀ L m s I oI C oC D ys news (P (i + 1))) E' { s with heap := h, toks := tk }

theorem mp_rest {elt : Expr} {x : Str} {scope : Scope} {cl : List (Str × Addr)} {news : List (Addr × Obj)} {vs : List Value} {P : Nat → List Value → List (Addr × Obj) → Prop} {l : Addr} {nl : Nat} {Fin : List Value → List (Addr × Obj) → Prop}
    (hmem : (l, listOf vs.toArray nl) ∈ news) (turn : MpTurn prog w A h₀ L m env elt x scope cl s news vs P) (fin : ∀ ys ex, P vs.length ys ex → Fin ys (ex ++ news)) :
    ∀ k i ys ex, i + k = vs.length → P i ys ex → CompRest prog w A h₀ L m env elt x scope cl s (SrcAt h₀ l vs.toArray) (fun i v => vs.toArray[i]? = some v) Fin k i ys (ex ++ news) := by
  intro k
  induction k with
  | zero => intro i ys ex hi hp; exact fin ys ex (by rw [← hi]; exact hp)
  | succ k ih =>
    intro i ys ex hi hp
    refine CompRest.succ fun v I oI C oC D m₂ h tk E' hP hC hx F N off ne => ?_
    refine wpAny_mono (turn i ys v ex I oI C oC D m₂ h tk E' (by simpa using hP) hp hC hx F N off) (fun y s₄ h2 => ?_) fun _ _ e => e
    obtain ⟨h', tk', ex', rfl, F', N', off', p'⟩ := h2
    exact ⟨h', tk', ex' ++ news, rfl, F', N', off', .inr ⟨_, List.mem_append_right _ hmem, rfl, _, rfl⟩, ih (i + 1) _ _ (by omega) p'⟩

noncomputable def MpSrc (prog : Program) (w : World) (A : Around) (h₀ : Heap) (L : Addr) (m : Str → Option Value) (env : Env) (elt : Expr) (x : Str) (scope : Scope) (cl : List (Str × Addr)) (Q : Value → Shared → Prop) (xv : Value) (s₁ : Shared) : Prop :=
  ∃ (l : Addr) (vs : List Value) (nl : Nat) (news : List (Addr × Obj)) (P : Nat → List Value → List (Addr × Obj) → Prop), xv = .ref l ∧ A.handled = none ∧ (l, listOf vs.toArray nl) ∈ news ∧ vs.length ≤ sizeLine ∧
    Fr h₀ L s₁.heap m ∧ News h₀ L s₁.heap news ∧ P 0 [] [] ∧ (∀ g, MpTurn prog w A h₀ L m env elt x scope cl { s₁ with heap := g } news vs P) ∧
    ∀ D h tk ys ex, Fr h₀ L h m → News h₀ L h ((D, lst ys) :: (ex ++ news)) → (∀ p ∈ ex ++ news, p.1 ≠ D) → P vs.length ys ex → Q (.ref D) { s₁ with heap := h, toks := tk }

theorem comp_map {elt iter : Expr} {x : Str} {px : Pos} {scope : Scope} {cl : List (Str × Addr)} {pos : Pos} {Q : Value → Shared → Prop} (F₀ : Fr h₀ L s.heap m)
    (hclos : closureFor scope env = pure cl) (hcell : ∀ y ∈ scope.names, y.2 ≠ .cell) (hkind : scope.kind = .function)
    (hnames : ∀ y ∈ scope.names, y.2 = .local → scope.names.lookup y.1 = some .local) (hx : scope.names.lookup x = some .local)
    (h : wpAny (model prog w) A (eval iter env) (MpSrc prog w A h₀ L m env elt x scope cl Q) E s)
    (hs : ∀ x, foldedSetIterable iter env x = pure x := by intro _; rfl) :
    wpAny (model prog w) A (eval (.ListComp elt [⟨.Name x px, iter, [], 0⟩] scope pos) env) Q E s := by
  refine ListComp_U F₀ hclos hcell hkind hnames hx (wpAny_mono h (fun xv s₁ h₁ => ?_) fun _ _ e => e) hs
  obtain ⟨l, vs, nl, news, P, rfl, hh, hmem, hsz, F, N, hP, turn, done⟩ := h₁
  refine CompSrc.ledger (k := nl) hh F N hmem (by rw [List.size_toArray]; exact hsz) fun g => ?_
  rw [List.size_toArray]
  exact mp_rest hmem (turn g) (fun ys ex hp D h tk F' N' o => done D h tk ys ex F' N' (off1_mem o) hp) _ 0 [] [] (Nat.zero_add _) hP

end
end Mine
end
namespace Mine
theorem top_off_E3 : True := by
  w_top off
  trivial
end Mine
section
set_option maxRecDepth 100000
set_option linter.unusedVariables false
namespace Mine
open PySem PySem.W PySem.Calls PyProof.Rows PySem.Spec
section
variable {prog : Program} {w : World} {A : Around} {R : Result → Shared → Prop} {s : Shared} {K : Frag} {p : Program} {loose : List Str} {mean : ExcName → Option Value} {mg mb : Str → Option Value}
  {name qual : Str} {params : Arguments} {body : List Stmt} {scope : Scope} {dV kV doc pm cdv ct oc : Value} {an od : Option Addr} {osl : Array (Option Value)} {f : Addr} {args : Args} {binds : List (Str × Value)}

/-- a def that changes objects of its caller's: they are hidden in the base, and stand in the ledger -/
theorem enterM (mtb : List (Addr × Obj)) (X : K.In (hideAll s.heap (mtb.map (·.1)))) (T : Top p loose mean mg mb (hideAll s.heap (mtb.map (·.1)))) (Mu : ∀ q ∈ mtb, s.heap.get? q.1 = some q.2)
    (ho : K.lookup f = some ⟨oc, od, .func (fnOf name qual params body scope dV kV doc pm an cdv ct), osl⟩) (hcd : codeIn K cdv qual = true)
    (hroom : A.depth < recursionLimit) (hbind : BindsTo s (fnOf name qual params body scope dV kV doc pm an cdv ct) args binds) (hloc : ∀ y ∈ binds, scope.names.lookup y.1 = some .local)
    (h : ∀ L h₁, Fr (hideAll s.heap (mtb.map (·.1))) L h₁ (fun y => binds.reverse.lookup y) → News (hideAll s.heap (mtb.map (·.1))) L h₁ mtb →
      wpAny (model prog w) (A.deeper (envOf qual scope L f cdv)) (execs body (envOf qual scope L f cdv))
        (fun fl s' => R (.ok (.ret (match fl with | .ret v => v | _ => .none))) s') (fun _ _ => False) { s with heap := h₁, toks := s.toks + binds.length })
    (hcell : ∀ x ∈ scope.names, x.2 ≠ .cell) (hco : scope.isCoroutine = false) (hgen : scope.isGenerator = false) (hk : scope.kind = .function) :
    codeAny (model prog w) A (.call (.ref f) args) R s := by
  have up : ∀ b o, (hideAll s.heap (mtb.map (·.1))).get? b = some o → s.heap.get? b = some o := fun b o e => of_hideAll _ e
  have X' : K.In s.heap := X.keeps up
  have T' : Top p loose mean mg mb s.heap := T.keeps up
  refine codeAny_call_def (fd := fnOf name qual params body scope dV kV doc pm an cdv ct) (body := body) (binds := binds) hroom (X' _ _ ho) rfl T'.nolimit (codeRec_of X' hcd) rfl hbind hcell hloc (fun h₁ hns hk₁ => ?_) hco hgen hk
  refine wpAny_mono (h s.heap.objs.size h₁ ⟨hns, fun b o e => hk₁ b o (up b o e), by rw [hideAll_size]; exact Nat.le_refl _⟩ fun q hq => ⟨hk₁ _ _ (Mu q hq), Nat.ne_of_lt (Heap.lt_size (Mu q hq)), hideAll_none _ (List.mem_map_of_mem hq)⟩) (fun _ _ x => x) fun _ _ x => x.elim
end
section
variable {prog : Program} {w : World} {A : Around} {E : Value → Shared → Prop} {s : Shared} {h₀ h : Heap} {L D : Addr} {m : Str → Option Value} {news news' : List (Addr × Obj)} {n : Nat}
theorem cut_split (vs : List Value) : ∀ (k : Nat) (y : Value), vs[k]? = some y → kl_cut vs k = some (vs.take k, y, vs.drop (k + 1)) := by
  induction vs with
  | nil => intro k y h; simp at h
  | cons v vs ih =>
    intro k y h
    cases k with
    | zero => simp at h; subst h; rfl
    | succ k =>
      have := ih k y (by simpa using h)
      simp [kl_cut, this]
theorem pop_at_K {vs : List Value} {k : Nat} {y : Value} {u : Tok} {Q : Value → Shared → Prop} (F : Fr h₀ L s.heap m) (N : News h₀ L s.heap news) (hy : vs[k]? = some y) (hz : vs.length < 1000)
    (U : Upd D (listOf vs.toArray n) (listOf (vs.eraseIdx k).toArray (n + 1)) news news') (h : ∀ h', Fr h₀ L h' m → News h₀ L h' news' → Q y { s with heap := h' }) :
    wpAny (model prog w) A (call (.builtin "list.pop") [.ref D, .int (k : Int) u]) Q E s := by
  have hk : k < vs.length := by
    rcases Nat.lt_or_ge k vs.length with h | h
    · exact h
    · rw [List.getElem?_eq_none h] at hy; cases hy
  have e : vs.eraseIdx k = vs.take k ++ vs.drop (k + 1) := List.eraseIdx_eq_take_drop_succ ..
  rw [e] at U
  refine kl_popAt F N ?_ ?_ (by simpa using cut_split vs k y hy) U (by rw [PySem.sizeLine_eq]; simpa using (by omega)) h
  · simp [Builtin.List.listFitsIndex]; omega
  · have : ¬ ((k : Int) < 0) := by omega
    simp [seqIndex?, this]; omega
end
end Mine
end
namespace Mine
theorem top_off_E4 : True := by
  w_top off
  trivial
end Mine
section
namespace Mine
local macro_rules | `(tactic| omega) => `(tactic| lia)
set_option maxRecDepth 100000
set_option linter.unusedVariables false

open PySem PySem.W PySem.Calls PyProof.Rows PySem.Spec
section
variable {prog : Program} {w : World} {A : Around} {E : Value → Shared → Prop} {s : Shared} {h₀ h : Heap} {L D : Addr} {m : Str → Option Value} {news : List (Addr × Obj)} {n : Nat}
theorem sort_here {vs : List Value} {ns : List Int} {Q : Value → Shared → Prop} (F : Fr h₀ L s.heap m) (N : News h₀ L s.heap ((D, listOf vs.toArray n) :: news)) (hne : ∀ q ∈ news, q.1 ≠ D) (hi : IntsAre vs ns) (h64 : vs.length < 64)
    (h : ∀ h' vs' ns' n', Fr h₀ L h' m → News h₀ L h' ((D, listOf (List.toArray vs') n') :: news) → IntsAre vs' ns' → ns'.Perm ns → ns'.Pairwise (· ≤ ·) → Q .none { s with heap := h' }) :
    wpAny (model prog w) A (call (.builtin "list.sort") [.ref D]) Q E s := by
  have z := N _ (.head _)
  have ho : s.heap.get? D = some (seqObj "list" vs.toArray n) := z.1
  refine wpAny_call_entry PyProof.Rows.slot_list_sort ⟨_, z.1, rfl⟩ PyProof.Rows.entry_list_sort (list_sort_tree (n := n) (vs := vs) ho hi h64 fun out ns' hI hp hP => ⟨.none, rfl, ?_⟩) (PyProof.Rows.args_list_sort _)
  obtain ⟨e, he⟩ := sortedHeap_at (out := out) ho
  have old : ∀ b o, s.heap.get? b = some o → b ≠ D → (sortedHeap s.heap D vs out).get? b = some o := fun b o e hb => (sortedHeap_old hb (Heap.lt_size e)).trans e
  obtain ⟨oL, es, ep, hL, hLd, hLk, hLf⟩ := F.ns
  refine h _ out.toList ns' e ⟨⟨oL, es, ep, old L oL hL (Ne.symm z.2.1), hLd, hLk, hLf⟩, fun b o e => old b o (F.keep b o e) (fun q => by rw [q, z.2.2] at e; cases e), F.above⟩ (fun q hq => ?_) hI hp hP
  rcases List.mem_cons.mp hq with rfl | hq
  · exact ⟨by rw [Array.toArray_toList]; exact he, z.2⟩
  · exact ⟨old _ _ (N q (.tail _ hq)).1 (hne q hq), (N q (.tail _ hq)).2⟩

theorem ints_of {vs : List Value} : ∀ {ks : List Int}, vs.length = ks.length → (∀ (j : Nat) (v : Value), vs[j]? = some v → ∃ (k : Int) (t : Tok), ks[j]? = some k ∧ v = Value.int k t) → IntsAre vs ks := by
  induction vs with
  | nil => intro ks hl _; cases ks with
    | nil => exact .nil
    | cons k ks => cases hl
  | cons v vs ih =>
    intro ks hl h
    cases ks with
    | nil => cases hl
    | cons k ks =>
      obtain ⟨k', t, hk, rfl⟩ := h 0 v (by simp)
      have : k = k' := by simpa using hk
      subst this
      exact .cons _ _ (ih (by simpa using hl) fun j v hv => h (j + 1) v hv)

theorem sorted_dict {d : Addr} {o : Obj} {kvs : List (Int × Value)} {Q : Value → Shared → Prop} (hh : A.handled = none) (F : Fr h₀ L s.heap m) (N : News h₀ L s.heap news) (hp : (d, o) ∈ news) (hd : o.IsDictOf (PySem.intKind prog w) kvs) (lo : (d == sysModules) = false) (hn : kvs.length < 60)
    (h : ∀ (B : Addr) h' tk vs' ns' n', Fr h₀ L h' m → News h₀ L h' ((B, listOf (List.toArray vs') n') :: news) → (∀ q ∈ news, q.1 ≠ B) → IntsAre vs' ns' → ns'.Perm (kvs.map (·.1)) → ns'.Pairwise (· ≤ ·) → Q (.ref B) { s with heap := h', toks := tk }) :
    wpAny (model prog w) A (call (.builtin "sorted") [.ref d]) Q E s := by
  obtain ⟨ep, hat⟩ := (kda_dict N hp hd).dictAt
  refine kdu_sorted (kdl_dict (knd := PySem.intKind prog w) (kvs := kvs) (ep := ep) lo) hh F N hat (by rw [PySem.sizeLine_eq]; omega) fun B h' tk vs F' N' l1 hl hv => ?_
  have hi : IntsAre vs (kvs.map (·.1)) := ints_of (by rw [hl, List.length_map]) fun j v hj => by
    obtain ⟨k, x, hx, hk⟩ := hv j v hj
    obtain ⟨t, rfl⟩ := PyProof.V.Flat.int_inv (kdl_flat_int hk)
    exact ⟨k, t, by rw [List.getElem?_map, hx]; rfl, rfl⟩
  refine sort_here F' N' (fun q hq => Nat.ne_of_lt (l1 q hq)) hi (by omega) fun h'' vs' ns' n' F'' N'' hi' hp' ho' => ?_
  exact h B h'' tk vs' ns' n' F'' N'' (fun q hq => Nat.ne_of_lt (l1 q hq)) hi' hp' ho'
end

/-- the lots: three of them at most, by degree -/
noncomputable abbrev L3 := Option (List Int) × Option (List Int) × Option (List Int)
noncomputable def l3get (l : L3) (d : Int) : Option (List Int) := if d = 1 then l.1 else if d = 2 then l.2.1 else if d = 3 then l.2.2 else none
noncomputable def l3set (l : L3) (d : Int) (x : List Int) : L3 := (if d = 1 then some x else l.1, if d = 2 then some x else l.2.1, if d = 3 then some x else l.2.2)
/-- the dict says the lots -/
structure LotsIn (led : List (Addr × Obj)) (kvs : List (Int × Value)) (l : L3) : Prop where
  keys : ∀ p ∈ kvs, p.1 = 1 ∨ p.1 = 2 ∨ p.1 = 3
  nodup : (kvs.map (·.1)).Nodup
  absent : ∀ d, l3get l d = none → valueAt kvs d = none
  there : ∀ d xs, l3get l d = some xs → ∃ a us n, valueAt kvs d = some (.ref a) ∧ (a, listOf (List.toArray us) n) ∈ led ∧ IntsAre us xs
theorem LotsIn.nil {led : List (Addr × Obj)} : LotsIn led [] (none, none, none) :=
  ⟨(fun p hp => by cases hp), List.nodup_nil, fun d _ => rfl, fun d xs h => by simp [l3get] at h⟩
theorem LotsIn.more {led led' : List (Addr × Obj)} {kvs : List (Int × Value)} {l : L3} (x : LotsIn led kvs l) (hs : ∀ p ∈ led, p ∈ led') : LotsIn led' kvs l :=
  ⟨x.keys, x.nodup, x.absent, fun d xs h => let ⟨a, us, n, e, hm, hi⟩ := x.there d xs h; ⟨a, us, n, e, hs _ hm, hi⟩⟩
theorem stored_keys {kvs : List (Int × Value)} {k : Int} {v : Value} : ∀ p ∈ stored kvs k v, p.1 = k ∨ ∃ q ∈ kvs, q.1 = p.1 := fun p hp => by
  unfold stored at hp
  split at hp
  · obtain ⟨q, hq, rfl⟩ := List.mem_map.mp hp
    split
    · exact .inr ⟨q, hq, rfl⟩
    · exact .inr ⟨q, hq, rfl⟩
  · rcases List.mem_append.mp hp with hp | hp
    · exact .inr ⟨p, hp, rfl⟩
    · rw [List.mem_singleton.mp hp]; exact .inl rfl
theorem valueAt_stored {kvs : List (Int × Value)} {k d : Int} {v : Value} : valueAt (stored kvs k v) d = if d = k then some v else valueAt kvs d := by
  unfold stored valueAt
  by_cases hany : kvs.any (fun kv => kv.1 = k) = true
  · rw [if_pos hany]
    induction kvs with
    | nil => cases hany
    | cons q r ih =>
      simp only [List.map_cons, List.find?_cons]
      by_cases hq : q.1 = k
      · by_cases hd : d = k
        · simp [hq, hd]
        · have hqd : ¬ q.1 = d := fun e => hd (e.symm.trans hq)
          simp only [hq, if_true]
          have hkd : ¬ k = d := fun e => hd e.symm
          simp only [hkd, decide_false, if_neg hd]
          clear ih hany
          induction r with
          | nil => simp
          | cons q' r ih =>
            simp only [List.map_cons, List.find?_cons]
            by_cases hq' : q'.1 = k
            · simp only [hq', if_true, hkd, decide_false]
              exact ih
            · simp only [hq', if_false]
              by_cases hqd' : q'.1 = d
              · simp [hqd']
              · simp only [hqd', decide_false]
                exact ih
      · have hany' : r.any (fun kv => kv.1 = k) = true := by simpa [hq] using hany
        have ih := ih hany'
        simp only [hq, if_false]
        by_cases hqd : q.1 = d
        · have : ¬ d = k := fun e => hq (hqd.trans e)
          simp [hqd, this]
        · simp only [hqd, decide_false]
          exact ih
  · rw [if_neg hany, List.find?_append]
    have hnone : kvs.find? (fun kv => decide (kv.1 = k)) = none := by
      rw [List.find?_eq_none]
      intro q hq he
      exact hany (List.any_eq_true.mpr ⟨q, hq, he⟩)
    by_cases hd : d = k
    · subst hd
      rw [hnone]
      simp
    · have hkd : ¬ k = d := fun e => hd e.symm
      simp [hd, hkd]
theorem stored_nodup {kvs : List (Int × Value)} {k : Int} {v : Value} (h : (kvs.map (·.1)).Nodup) : ((stored kvs k v).map (·.1)).Nodup := by
  unfold stored
  split
  · have : (kvs.map (fun kv => if kv.1 = k then (kv.1, v) else kv)).map (·.1) = kvs.map (·.1) := by
      rw [List.map_map]
      refine List.map_congr_left fun q hq => ?_
      simp only [Function.comp]
      split <;> rfl
    rw [this]; exact h
  · rename_i hn
    rw [List.map_append, List.nodup_append]
    refine ⟨h, by simp, ?_⟩
    intro a ha b hb e
    simp at hb
    obtain ⟨q, hq, rfl⟩ := List.mem_map.mp ha
    exact hn (List.any_eq_true.mpr ⟨q, hq, by simp [e, hb]⟩)
theorem l3get_set {l : L3} {k d : Int} {x : List Int} (hk : k = 1 ∨ k = 2 ∨ k = 3) : l3get (l3set l k x) d = if d = k then some x else l3get l d := by
  unfold l3get l3set
  rcases hk with rfl | rfl | rfl
  · by_cases h : d = 1 <;> simp [h]
  · by_cases h : d = 1
    · subst h; simp
    · by_cases h2 : d = 2 <;> simp [h, h2]
  · by_cases h : d = 1
    · subst h; simp
    · by_cases h2 : d = 2
      · subst h2; simp
      · by_cases h3 : d = 3 <;> simp [h, h2, h3]
theorem LotsIn.set {led : List (Addr × Obj)} {kvs : List (Int × Value)} {l : L3} {k : Int} {a : Addr} {us : List Value} {n : Nat} {xs : List Int} (x : LotsIn led kvs l) (hk : k = 1 ∨ k = 2 ∨ k = 3) (hm : (a, listOf us.toArray n) ∈ led) (hi : IntsAre us xs) :
    LotsIn led (stored kvs k (.ref a)) (l3set l k xs) := by
  refine ⟨fun p hp => ?_, stored_nodup x.nodup, fun d hd => ?_, fun d ys hd => ?_⟩
  · rcases stored_keys p hp with h | ⟨q, hq, h⟩
    · rw [h]; exact hk
    · rw [← h]; exact x.keys q hq
  · rw [l3get_set hk] at hd
    rw [valueAt_stored]
    split at hd
    · cases hd
    · rename_i h; rw [if_neg h]; exact x.absent d hd
  · rw [l3get_set hk] at hd
    rw [valueAt_stored]
    split at hd
    · rename_i h
      rw [if_pos h]
      obtain rfl := Option.some.inj hd
      exact ⟨a, us, n, rfl, hm, hi⟩
    · rename_i h
      rw [if_neg h]
      exact x.there d ys hd
theorem LotsIn.len {led : List (Addr × Obj)} {kvs : List (Int × Value)} {l : L3} (x : LotsIn led kvs l) : kvs.length ≤ 3 := by
  have hk := x.keys
  have hn := x.nodup
  match kvs with
  | [] => exact Nat.zero_le _
  | [_] => exact Nat.le_of_ble_eq_true rfl
  | [_, _] => exact Nat.le_of_ble_eq_true rfl
  | [_, _, _] => exact Nat.le_refl _
  | a :: b :: c :: d :: r =>
    exfalso
    have h1 := hk a (by simp)
    have h2 := hk b (by simp)
    have h3 := hk c (by simp)
    have h4 := hk d (by simp)
    simp only [List.map_cons, List.nodup_cons, List.mem_cons, not_or] at hn
    omega

end Mine
end
namespace Mine
theorem top_off_F1 : True := by
  w_top off
  trivial
end Mine
section
set_option maxRecDepth 100000
set_option linter.unusedVariables false
namespace Mine
open PySem PySem.W PySem.Calls PyProof.Rows PySem.Spec
theorem fill_F1 : PySem.Challenge.rw_nn0250_01 = PySem.Challenge.rw_nn0250_01 ∧ hd.heap_39 = hd.heap_39 := by
  k_fill
  exact ⟨rfl, rfl⟩


set_option maxHeartbeats 4000000 in
theorem mtrim_ok : ∀ {w : World} {mean : ExcName → Option Value} {mg mb : Str → Option Value} {s : Shared} {a : Addr} {vs : List Value} {xs : List Int}
    (_ : (hd.heap_39 w.params).In s.heap) (_ : Top hd.view_39 (looseW hd.view_39 []) mean mg mb s.heap)
    (_ : s.heap.IsList a vs.toArray) (_ : IntsAre vs xs) (_ : xs.length < 1000), Fn w 0 35 s [.ref a] (NewL s.heap (trimI xs)) := by
  intro w mean mg mb s a vs xs X T h1 h2 h3
  intro Q E hQ
  refine wpAny_call ?_
  refine enter (binds := [(Str.ofString "a", .ref a)]) (by assumption) (by assumption) (by k_is) (by k_is) (by decide) (BindsTo.of_eq rfl) (locs rfl) ?_ (by decide) rfl rfl rfl
  intro L h₁ F N
  k_fold
  k_steps
  rename_i h1 h2 h3 h4 _ _ _ _ _ _ _ _ _ _ _ F' N' _
  refine hQ _ _ _ F'.keep (trimI_walk h1 h2 h3 h4 ▸ NewL.of N' (.head _) (by assumption))

end Mine
end
section
namespace Mine
set_option maxRecDepth 100000
set_option linter.unusedVariables false
set_option linter.unusedSimpArgs false
open PySem PySem.W PySem.Calls PyProof.Rows PySem.Spec
local macro_rules | `(tactic| walk_at "execs cons Assign cons") => `(tactic| ((try (with_reducible refine norm_toks (fun _ => ?_))); refine wpAny_execs_cons ?_))
local macro_rules | `(tactic| walk_at "execs cons Assign nil") => `(tactic| walk_at "execs cons Assign cons")
local macro_rules | `(tactic| walk_at "execs cons For cons") => `(tactic| walk_at "execs cons Assign cons")
local macro_rules | `(tactic| walk_at "execs cons For nil") => `(tactic| walk_at "execs cons Assign cons")
local macro_rules | `(tactic| walk_at "execs cons While cons") => `(tactic| walk_at "execs cons Assign cons")
local macro_rules | `(tactic| walk_at "execs cons While nil") => `(tactic| walk_at "execs cons Assign cons")
local macro_rules | `(tactic| walk_at "execs cons If cons") => `(tactic| walk_at "execs cons Assign cons")
local macro_rules | `(tactic| walk_at "execs cons If nil") => `(tactic| walk_at "execs cons Assign cons")
local macro_rules | `(tactic| walk_at "exec While Compare cons nil") => `(tactic| refine halt ?_)
local macro_rules | `(tactic| walk_at "exec While BoolOp cons nil") => `(tactic| refine halt ?_)
local macro_rules | `(tactic| walk_at "exec For Name Call cons nil") => `(tactic| refine halt ?_)
local macro_rules | `(tactic| walk_at "exec For Tuple Call cons nil") => `(tactic| refine halt ?_)
local macro_rules | `(tactic| walk_at "exec For Name Name cons nil") => `(tactic| refine halt ?_)
local macro_rules | `(tactic| walk_at "pyIter ref") => `(tactic| refine halt ?_)
local macro_rules | `(tactic| walk_at "call type:enumerate") => `(tactic| refine halt ?_)
local macro_rules | `(tactic| walk_at "eval ListComp") => `(tactic| refine halt ?_)
local macro_rules | `(tactic| walk_at "exec Assign cons ListComp") => `(tactic| refine wpAny_Assign_Name ?_)
local macro_rules | `(tactic| walk_at "TurnPost") => `(tactic| refine halt ?_)
local macro_rules | `(tactic| walk_at "binaryOp Mod int int") => `(tactic| (with_reducible refine mod_int' ?hne ?_; (case hne => assumption)))
local macro_rules | `(tactic| walk_at "call builtin:list.append") => `(tactic| (k_here; (with_reducible show wpAny _ _ (call (Value.builtin _) [Value.ref _, _]) _ _ _); k_dflt (refine' append_K ?k1 ?k2 ?k3 ?_ ?z; (case k1 => k_asm); (case k2 => k_asm); (case k3 => k_upd); (case z => assumption); k_whole); intro h' F' N'; (try k_sweep)))
local macro_rules | `(tactic| k_all) => `(tactic| assumption)
local macro_rules | `(tactic| mul_fits) => `(tactic| first | exact PySem.IntMulOk.of_left (PySem.intBits_le_64 (by omega) (by omega)) | exact PySem.IntMulOk.of_right (PySem.intBits_le_64 (by omega) (by omega)))
local macro_rules | `(tactic| walk_at "KswPost") => `(tactic| refine halt ?_)
local macro_rules | `(tactic| walk_at "execs nil") => `(tactic| ((try (with_reducible refine norm_toks (fun _ => ?_))); refine wpAny_execs_nil ?_))
local macro_rules | `(tactic| walk_at "exec If") => `(tactic| refine wpAny_If ?_)
local macro_rules | `(tactic| news_mem) => `(tactic| (repeat (first | assumption | exact List.Mem.head _ | refine List.mem_cons_of_mem _ ?_)))
local macro_rules | `(tactic| k_ne) => `(tactic| exact ne_of_news (by assumption) (by (repeat (first | assumption | exact List.Mem.head _ | refine List.mem_cons_of_mem _ ?_))))
local macro_rules | `(tactic| is_list) => `(tactic| first | (with_reducible assumption) | exact Fr.lst (by assumption) (by with_reducible assumption) | exact Loc.isList (by with_reducible assumption) (by k_asm) (News.sub (by k_asm) (by (intro _ hq); (repeat (first | exact hq | refine List.mem_cons_of_mem _ ?_)))) | exact Loc.isListX (by with_reducible assumption) (by with_reducible assumption) (by k_asm) (News.sub (by k_asm) (by (intro _ hq); (repeat (first | exact hq | refine List.mem_cons_of_mem _ ?_)))) | fail "is_list")
theorem top_off_F3 : True := by
  w_top off
  trivial

section
set_option maxRecDepth 100000
set_option linter.unusedVariables false
set_option linter.unusedSimpArgs false
open PySem PySem.W PySem.Calls PyProof.Rows PySem.Spec
theorem fill_F3 : PySem.Challenge.rw_nn0250_01 = PySem.Challenge.rw_nn0250_01 ∧ hd.heap_39 = hd.heap_39 := by
  k_fill
  exact ⟨rfl, rfl⟩

noncomputable def mnegI (p : Int) (a : List Int) : List Int := a.map (fun x => Int.fmod (-x) p)
noncomputable def mscaleI (p c : Int) (a : List Int) : List Int := trimI (a.map (fun x => Int.fmod (x * c) p))


set_option maxHeartbeats 4000000 in
theorem mneg_ok : ∀ {w : World} {mean : ExcName → Option Value} {mg mb : Str → Option Value} {s : Shared} {a : Addr} {us : List Value} {xs : List Int} {p : Int} {tp : Tok}
    (_ : (hd.heap_39 w.params).In s.heap) (_ : Top hd.view_39 (looseW hd.view_39 []) mean mg mb s.heap)
    (_ : s.heap.IsList a us.toArray) (_ : IntsAre us xs) (_ : xs.length < 1000) (_ : (p = 2 ∨ p = 3 ∨ p = 5)), Fn w 1 54 s [.ref a, .int p tp] (NewL s.heap (mnegI p xs)) := by
  intro w mean mg mb s a us xs p tp X T h1 h2 h3 h4
  intro Q E hQ
  refine wpAny_call ?_
  refine enterC (binds := [(Str.ofString "a", .ref a), (Str.ofString "p", .int p tp)]) (by assumption) (by assumption) (by k_is) (by k_is) (by decide) (BindsTo.of_eq rfl) rfl (by decide) ?_ rfl rfl rfl
  intro L h₁ tk₁ cells F N X0
  k_fold
  have hp0 : p ≠ 0 := by omega
  obtain ⟨o1, he, d1⟩ := CellsAre.one X0
  subst he
  replace d1 : o1.data = .cell (some (.int p tp)) := d1
  (repeat' (first | (k_here; (with_reducible show wpAny _ _ (call (Value.ref 35) [Value.ref _]) _ _ _); k_dflt (refine' use_L (mtrim_ok ?x1 ?x2 ?x3 ?x4 ?x5) ?k1 ?k2 ?_ rfl ?d1 ?d2; (case k1 => k_asm); (case k2 => k_asm); (case x1 => k_in); (case x2 => exact Top.keeps (by assumption) (Fr.keep (by k_asm))); (case x3 => is_list); (case x4 => l_ints); (case x5 => assumption); (case d1 => exact Nat.le_of_ble_eq_true rfl); (case d2 => exact Nat.le_of_ble_eq_true rfl)); (intro l' vs' n' h' tk' F' N' ne' i'); (try k_sweep)) | walk1 | (dsimp only; walk1)))
  unfold Halt
  refine LCg.ListComp_U (F₀ := by assumption) (by with_unfolding_all rfl) (by decide) (by rfl) (by decide) (by rfl) ?_
  (repeat' (first | (k_here; (with_reducible show wpAny _ _ (call (Value.ref 35) [Value.ref _]) _ _ _); k_dflt (refine' use_L (mtrim_ok ?x1 ?x2 ?x3 ?x4 ?x5) ?k1 ?k2 ?_ rfl ?d1 ?d2; (case k1 => k_asm); (case k2 => k_asm); (case x1 => k_in); (case x2 => exact Top.keeps (by assumption) (Fr.keep (by k_asm))); (case x3 => is_list); (case x4 => l_ints); (case x5 => assumption); (case d1 => exact Nat.le_of_ble_eq_true rfl); (case d2 => exact Nat.le_of_ble_eq_true rfl)); (intro l' vs' n' h' tk' F' N' ne' i'); (try k_sweep)) | walk1 | (dsimp only; walk1)))
  rename News _ _ _ _ => N9
  rename Fr _ _ _ _ => F9
  rename IntsAre _ _ => i9
  exact hQ _ _ _ F9.keep (NewL.of N9 (.head _) i9)


set_option maxHeartbeats 4000000 in
theorem mscale_ok : ∀ {w : World} {mean : ExcName → Option Value} {mg mb : Str → Option Value} {s : Shared} {a : Addr} {us : List Value} {xs : List Int} {p c : Int} {tp tc : Tok}
    (_ : (hd.heap_39 w.params).In s.heap) (_ : Top hd.view_39 (looseW hd.view_39 []) mean mg mb s.heap)
    (_ : s.heap.IsList a us.toArray) (_ : IntsAre us xs) (_ : xs.length < 1000) (_ : (p = 2 ∨ p = 3 ∨ p = 5)) (_ : (0 ≤ c ∧ c < 100)), Fn w 1 66 s [.ref a, .int c tc, .int p tp] (NewL s.heap (mscaleI p c xs)) := by
  intro w mean mg mb s a us xs p c tp tc X T h1 h2 h3 h4 h5
  intro Q E hQ
  refine wpAny_call ?_
  refine enterC (binds := [(Str.ofString "a", .ref a), (Str.ofString "number", .int c tc), (Str.ofString "p", .int p tp)]) (by assumption) (by assumption) (by k_is) (by k_is) (by decide) (BindsTo.of_eq rfl) rfl (by decide) ?_ rfl rfl rfl
  intro L h₁ tk₁ cells F N X0
  k_fold
  have hp0 : p ≠ 0 := by omega
  obtain ⟨o1, o2, he, d1, d2⟩ := CellsAre.two X0
  subst he
  replace d1 : o1.data = .cell (some (.int p tp)) := d1
  replace d2 : o2.data = .cell (some (.int c tc)) := d2
  (repeat' (first | (k_here; (with_reducible show wpAny _ _ (call (Value.ref 35) [Value.ref _]) _ _ _); k_dflt (refine' use_L (mtrim_ok ?x1 ?x2 ?x3 ?x4 ?x5) ?k1 ?k2 ?_ rfl ?d1 ?d2; (case k1 => k_asm); (case k2 => k_asm); (case x1 => k_in); (case x2 => exact Top.keeps (by assumption) (Fr.keep (by k_asm))); (case x3 => is_list); (case x4 => l_ints); (case x5 => assumption); (case d1 => exact Nat.le_of_ble_eq_true rfl); (case d2 => exact Nat.le_of_ble_eq_true rfl)); (intro l' vs' n' h' tk' F' N' ne' i'); (try k_sweep)) | walk1 | (dsimp only; walk1)))
  unfold Halt
  refine LCg.ListComp_U (F₀ := by assumption) (by with_unfolding_all rfl) (by decide) (by rfl) (by decide) (by rfl) ?_
  have hlen : (xs.map (fun x => Int.fmod (x * c) p)).length < 1000 := by rw [List.length_map]; omega
  (repeat' (first | (k_here; (with_reducible show wpAny _ _ (call (Value.ref 35) [Value.ref _]) _ _ _); k_dflt (refine' use_L (mtrim_ok ?x1 ?x2 ?x3 ?x4 ?x5) ?k1 ?k2 ?_ rfl ?d1 ?d2; (case k1 => k_asm); (case k2 => k_asm); (case x1 => k_in); (case x2 => exact Top.keeps (by assumption) (Fr.keep (by k_asm))); (case x3 => is_list); (case x4 => l_ints); (case x5 => assumption); (case d1 => exact Nat.le_of_ble_eq_true rfl); (case d2 => exact Nat.le_of_ble_eq_true rfl)); (intro l' vs' n' h' tk' F' N' ne' i'); (try k_sweep)) | walk1 | (dsimp only; walk1)))
  rename News _ _ _ _ => N9
  rename Fr _ _ _ _ => F9
  rename IntsAre _ _ => i9
  exact hQ _ _ _ F9.keep (NewL.of N9 (.head _) i9)
end
theorem top_off_F5 : True := by
  w_top off
  trivial

section
set_option maxRecDepth 100000
set_option linter.unusedVariables false
set_option linter.unusedSimpArgs false
open PySem PySem.W PySem.Calls PyProof.Rows PySem.Spec
theorem fill_F5 : PySem.Challenge.rw_nn0250_01 = PySem.Challenge.rw_nn0250_01 ∧ hd.heap_39 = hd.heap_39 := by
  k_fill
  exact ⟨rfl, rfl⟩

noncomputable abbrev I3 := Int × Int × Int
noncomputable def extStep (c : I3 × I3) : I3 × I3 :=
  (c.2, (c.1.1 - Int.fdiv c.1.1 c.2.1 * c.2.1, c.1.2.1 - Int.fdiv c.1.1 c.2.1 * c.2.2.1, c.1.2.2 - Int.fdiv c.1.1 c.2.1 * c.2.2.2))
noncomputable def extRun : Nat → I3 × I3 → List (I3 × I3)
  | 0, c => [c]
  | n + 1, c => c :: (if c.2.1 = 0 then [] else extRun n (extStep c))
noncomputable def extReach : List (I3 × I3) := [(1, 2), (1, 3), (2, 3), (1, 5), (2, 5), (3, 5), (4, 5)].flatMap fun (x : Int × Int) => extRun 6 ((x.1, 1, 0), (x.2, 0, 1))
noncomputable def extEnd : Nat → I3 × I3 → I3
  | 0, c => c.1
  | n + 1, c => if c.2.1 = 0 then c.1 else extEnd n (extStep c)
noncomputable def extI (a b : Int) : I3 := extEnd 6 ((a, 1, 0), (b, 0, 1))
theorem ext_step : ∀ c ∈ extReach, c.2.1 ≠ 0 → extStep c ∈ extReach ∧ extEnd 6 (extStep c) = extEnd 6 c ∧ (extStep c).2.1.natAbs < c.2.1.natAbs := by decide +kernel
theorem ext_bnd : ∀ c ∈ extReach, (0 ≤ c.1.1 ∧ c.1.1 ≤ 10 ∧ 0 ≤ c.2.1 ∧ c.2.1 ≤ 10) ∧ (-10 ≤ c.1.2.1 ∧ c.1.2.1 ≤ 10) ∧ (-10 ≤ c.1.2.2 ∧ c.1.2.2 ≤ 10) ∧ (-10 ≤ c.2.2.1 ∧ c.2.2.1 ≤ 10) ∧ (-10 ≤ c.2.2.2 ∧ c.2.2.2 ≤ 10) := by decide +kernel
theorem ext_end : ∀ c ∈ extReach, c.2.1 = 0 → extEnd 6 c = c.1 := by decide +kernel
noncomputable abbrev T6 := (Tok × Tok × Tok) × (Tok × Tok × Tok)
noncomputable abbrev ExtS := (Addr × Addr) × (I3 × I3) × T6
noncomputable abbrev extLed (c : ExtS) : List (Addr × Obj) :=
  [(c.1.2, tupOf [.int c.2.1.2.1 c.2.2.2.1, .int c.2.1.2.2.1 c.2.2.2.2.1, .int c.2.1.2.2.2 c.2.2.2.2.2]), (c.1.1, tupOf [.int c.2.1.1.1 c.2.2.1.1, .int c.2.1.1.2.1 c.2.2.1.2.1, .int c.2.1.1.2.2 c.2.2.1.2.2])]


theorem ext_elim {motive : ExtS → Prop} (h : ∀ aO aT r0 s0 t0 r1 s1 t1 k1 k2 k3 k4 k5 k6, motive ((aO, aT), ((r0, s0, t0), (r1, s1, t1)), (k1, k2, k3), (k4, k5, k6))) (c : ExtS) : motive c :=
  h c.1.1 c.1.2 c.2.1.1.1 c.2.1.1.2.1 c.2.1.1.2.2 c.2.1.2.1 c.2.1.2.2.1 c.2.1.2.2.2 c.2.2.1.1 c.2.2.1.2.1 c.2.2.1.2.2 c.2.2.2.1 c.2.2.2.2.1 c.2.2.2.2.2
set_option maxHeartbeats 4000000 in
theorem extended_ok : ∀ {w : World} {mean : ExcName → Option Value} {mg mb : Str → Option Value} {s : Shared} {a b : Int} {ta tb : Tok}
    (_ : (hd.heap_39 w.params).In s.heap) (_ : Top hd.view_39 (looseW hd.view_39 []) mean mg mb s.heap)
    (_ : ((a, 1, 0), (b, 0, 1)) ∈ extReach), Fn w 0 21 s [.int a ta, .int b tb] (NewT3 s.heap (extI a b)) := by
  intro w mean mg mb s a b ta tb X T h1
  intro Q E hQ
  refine wpAny_call ?_
  refine enter (binds := [(Str.ofString "a", .int a ta), (Str.ofString "b", .int b tb)]) (by assumption) (by assumption) (by k_is) (by k_is) (by decide) (BindsTo.of_eq rfl) (locs rfl) ?_ (by decide) rfl rfl rfl
  intro L h₁ F N
  k_fold
  (repeat' (first | walk1 | (dsimp only; walk1)))
  unfold Halt
  rename News _ _ _ _ => N0
  refine whileR extLed (fun c => [(Str.ofString "one", .ref c.1.1), (Str.ofString "other", .ref c.1.2)]) (fun _ => True) [Str.ofString "times", Str.ofString "rest"] (fun c => c.2.1 ∈ extReach ∧ extEnd 6 c.2.1 = extI a b) (fun c => c.2.1.2.1.natAbs)
    ((_, _), ((a, 1, 0), (b, 0, 1)), (_, _, _), (_, _, _)) (by assumption) (kst_newsOf N0 (fun p hp => .tail _ hp)) trivial (by kst_all) ⟨h1, rfl⟩ ?_
  refine ext_elim ?_
  rintro aO aT r0 s0 t0 r1 s1 t1 k1 k2 k3 k4 k5 k6 u h tk - hP0 F' N' Rq hRq
  dsimp only at hP0 F' N'
  obtain ⟨hm, he⟩ := hP0
  have hb := ext_bnd _ hm
  have hs := ext_step _ hm
  have hd := ext_end _ hm
  dsimp only at hb hs hd
  obtain ⟨⟨b1, b2, b3, b4⟩, ⟨b5, b6⟩, ⟨b7, b8⟩, ⟨b9, b10⟩, b11, b12⟩ := hb
  (repeat' (first | walk1 | (dsimp only; walk1)))
  · refine hRq _ _ ?_
    dsimp only [KswPost]
    rename News _ _ _ _ => N9
    rename Fr _ _ _ _ => F9
    have hr : r1 ≠ 0 := by assumption
    obtain ⟨m1, m2, m3⟩ := hs hr
    exact ksw_end ((aT, _), ((r1, s1, t1), (_, _, _)), (k4, k5, k6), (_, _, _)) F9 N9 (List.forall_mem_cons.mpr ⟨.tail _ (.head _), List.forall_mem_cons.mpr ⟨.tail _ (.tail _ (.head _)), List.forall_mem_nil _⟩⟩) trivial (by kst_all) (by intro z h2 h3; simp only [List.contains_cons, List.contains_nil, Bool.or_false, Bool.or_eq_false_iff, beq_eq_false_iff_ne, ne_eq] at h3; (try simp only [List.forall_mem_cons, List.not_mem_nil, false_implies, implies_true, and_true, ne_eq] at h2); simp [h2, h3, mapB, kstB]) ⟨m1, m2.trans he⟩ m3
  · dsimp only
    have hr : r1 = 0 := by assumption
    have e : extI a b = (r0, s0, t0) := he.symm.trans (hd hr)
    refine hQ _ _ _ F'.keep ?_
    rw [e]
    exact ⟨aO, k1, k2, k3, rfl, (N' _ (.tail _ (.head _))).2.2, (N' _ (.tail _ (.head _))).1⟩

noncomputable def invI (p a : Int) : Int := Int.fmod (extI (Int.fmod a p) p).2.1 p
theorem inv_facts {p a : Int} (hp : p = 2 ∨ p = 3 ∨ p = 5) (ha : 0 < a ∧ a < p) : ((Int.fmod a p, 1, 0), (p, 0, 1)) ∈ extReach ∧ (extI (Int.fmod a p) p).1 = 1 ∧ 0 ≤ invI p a ∧ invI p a < p := by
  have key : ∀ x ∈ [((2 : Int), (1 : Int)), (3, 1), (3, 2), (5, 1), (5, 2), (5, 3), (5, 4)], ((Int.fmod x.2 x.1, 1, 0), (x.1, 0, 1)) ∈ extReach ∧ (extI (Int.fmod x.2 x.1) x.1).1 = 1 ∧ 0 ≤ invI x.1 x.2 ∧ invI x.1 x.2 < x.1 := by decide +kernel
  refine key (p, a) ?_
  obtain ⟨h1, h2⟩ := ha
  rcases hp with rfl | rfl | rfl
  · have : a = 1 := by omega
    subst this; simp
  · have : a = 1 ∨ a = 2 := by omega
    rcases this with rfl | rfl <;> simp
  · have : a = 1 ∨ a = 2 ∨ a = 3 ∨ a = 4 := by omega
    rcases this with rfl | rfl | rfl | rfl <;> simp


set_option maxHeartbeats 4000000 in
theorem inverse_mod_ok : ∀ {w : World} {mean : ExcName → Option Value} {mg mb : Str → Option Value} {s : Shared} {a p : Int} {ta tp : Tok}
    (_ : (hd.heap_39 w.params).In s.heap) (_ : Top hd.view_39 (looseW hd.view_39 []) mean mg mb s.heap)
    (_ : (p = 2 ∨ p = 3 ∨ p = 5)) (_ : (0 < a ∧ a < p)), Fn w 1 28 s [.int a ta, .int p tp] (fun _ v => ∃ t, v = .int (invI p a) t) := by
  intro w mean mg mb s a p ta tp X T h1 h2
  intro Q E hQ
  refine wpAny_call ?_
  refine enter (binds := [(Str.ofString "a", .int a ta), (Str.ofString "m", .int p tp)]) (by assumption) (by assumption) (by k_is) (by k_is) (by decide) (BindsTo.of_eq rfl) (locs rfl) ?_ (by decide) rfl rfl rfl
  intro L h₁ F N
  k_fold
  obtain ⟨f1, f2, -⟩ := inv_facts h1 h2
  have hp0 : p ≠ 0 := by omega
  (repeat' (first | (k_here; (with_reducible show wpAny _ _ (call (Value.ref 21) [Value.int _ _, Value.int _ _]) _ _ _); k_dflt (refine' use_T3 (extended_ok ?x1 ?x2 ?x3) ?k1 ?k2 ?_ rfl ?d1 ?d2; (case k1 => k_asm); (case k2 => k_asm); (case x1 => k_in); (case x2 => exact Top.keeps (by assumption) (Fr.keep (by k_asm))); (case x3 => assumption); (case d1 => exact Nat.le_of_ble_eq_true rfl); (case d2 => exact Nat.le_of_ble_eq_true rfl)); (intro T' t1' t2' t3' h' tk' F' N' ne'); (try k_sweep)) | walk1 | (dsimp only; walk1)))
  · rename Fr _ _ _ _ => F9
    exact hQ _ _ _ F9.keep ⟨_, rfl⟩
  · exact absurd f2 (by assumption)


set_option maxHeartbeats 4000000 in
theorem mdegree_ok : ∀ {w : World} {mean : ExcName → Option Value} {mg mb : Str → Option Value} {s : Shared} {a : Addr} {us : List Value} {xs : List Int}
    (_ : (hd.heap_39 w.params).In s.heap) (_ : Top hd.view_39 (looseW hd.view_39 []) mean mg mb s.heap)
    (_ : s.heap.IsList a us.toArray) (_ : IntsAre us xs) (_ : xs.length < 1000), Fn w 1 42 s [.ref a] (fun _ v => ∃ t, v = .int ((xs.length : Int) - 1) t) := by
  intro w mean mg mb s a us xs X T h1 h2 h3
  intro Q E hQ
  refine wpAny_call ?_
  refine enter (binds := [(Str.ofString "a", .ref a)]) (by assumption) (by assumption) (by k_is) (by k_is) (by decide) (BindsTo.of_eq rfl) (locs rfl) ?_ (by decide) rfl rfl rfl
  intro L h₁ F N
  k_fold
  (repeat' (first | (k_here; (with_reducible show wpAny _ _ (call (Value.ref 21) [Value.int _ _, Value.int _ _]) _ _ _); k_dflt (refine' use_T3 (extended_ok ?x1 ?x2 ?x3) ?k1 ?k2 ?_ rfl ?d1 ?d2; (case k1 => k_asm); (case k2 => k_asm); (case x1 => k_in); (case x2 => exact Top.keeps (by assumption) (Fr.keep (by k_asm))); (case x3 => assumption); (case d1 => exact Nat.le_of_ble_eq_true rfl); (case d2 => exact Nat.le_of_ble_eq_true rfl)); (intro T' t1' t2' t3' h' tk' F' N' ne'); (try k_sweep)) | walk1 | (dsimp only; walk1)))
  rename Fr _ _ _ _ => F9
  exact hQ _ _ _ F9.keep ⟨_, rfl⟩
end
section
local macro_rules | `(tactic| omega) => `(tactic| lia)
theorem top_off_F2 : True := by
  w_top off
  trivial

section
set_option maxRecDepth 100000
set_option linter.unusedVariables false
set_option linter.unusedSimpArgs false
open PySem PySem.W PySem.Calls PyProof.Rows PySem.Spec
theorem fill_F2 : PySem.Challenge.rw_nn0250_01 = PySem.Challenge.rw_nn0250_01 ∧ hd.heap_39 = hd.heap_39 := by
  k_fill
  exact ⟨rfl, rfl⟩

noncomputable def maddR (p : Int) (a b : List Int) : List Int := (List.range (max a.length b.length)).map (fun j => Int.fmod ((if j < a.length then a.getD j 0 else 0) + (if j < b.length then b.getD j 0 else 0)) p)
noncomputable def maddI (p : Int) (a b : List Int) : List Int := trimI (maddR p a b)


set_option maxHeartbeats 4000000 in
theorem madd_ok : ∀ {w : World} {mean : ExcName → Option Value} {mg mb : Str → Option Value} {s : Shared} {a b : Addr} {us vs : List Value} {xs ys : List Int} {p : Int} {tp : Tok}
    (_ : (hd.heap_39 w.params).In s.heap) (_ : Top hd.view_39 (looseW hd.view_39 []) mean mg mb s.heap)
    (_ : s.heap.IsList a us.toArray) (_ : IntsAre us xs) (_ : s.heap.IsList b vs.toArray) (_ : IntsAre vs ys) (_ : xs.length < 1000) (_ : ys.length < 1000) (_ : (p = 2 ∨ p = 3 ∨ p = 5)), Fn w 1 49 s [.ref a, .ref b, .int p tp] (NewL s.heap (maddI p xs ys)) := by
  intro w mean mg mb s a b us vs xs ys p tp X T h1 h2 h3 h4 h5 h6 h7
  intro Q E hQ
  refine wpAny_call ?_
  refine enter (binds := [(Str.ofString "a", .ref a), (Str.ofString "b", .ref b), (Str.ofString "p", .int p tp)]) (by assumption) (by assumption) (by k_is) (by k_is) (by decide) (BindsTo.of_eq rfl) (locs rfl) ?_ (by decide) rfl rfl rfl
  intro L h₁ F N
  k_fold
  have hp0 : p ≠ 0 := by omega
  (repeat' (first | (k_here; (with_reducible show wpAny _ _ (call (Value.ref 35) [Value.ref _]) _ _ _); k_dflt (refine' use_L (mtrim_ok ?x1 ?x2 ?x3 ?x4 ?x5) ?k1 ?k2 ?_ rfl ?d1 ?d2; (case k1 => k_asm); (case k2 => k_asm); (case x1 => k_in); (case x2 => exact Top.keeps (by assumption) (Fr.keep (by k_asm))); (case x3 => is_list); (case x4 => l_ints); (case x5 => assumption); (case d1 => exact Nat.le_of_ble_eq_true rfl); (case d2 => exact Nat.le_of_ble_eq_true rfl)); (intro l' vs' n' h' tk' F' N' ne' i'); (try k_sweep)) | walk1 | (dsimp only; walk1)))
  unfold Halt
  refine For_turns (by assumption) ?_
  (repeat' (first | (k_here; (with_reducible show wpAny _ _ (call (Value.ref 35) [Value.ref _]) _ _ _); k_dflt (refine' use_L (mtrim_ok ?x1 ?x2 ?x3 ?x4 ?x5) ?k1 ?k2 ?_ rfl ?d1 ?d2; (case k1 => k_asm); (case k2 => k_asm); (case x1 => k_in); (case x2 => exact Top.keeps (by assumption) (Fr.keep (by k_asm))); (case x3 => is_list); (case x4 => l_ints); (case x5 => assumption); (case d1 => exact Nat.le_of_ble_eq_true rfl); (case d2 => exact Nat.le_of_ble_eq_true rfl)); (intro l' vs' n' h' tk' F' N' ne' i'); (try k_sweep)) | walk1 | (dsimp only; walk1)))
  unfold Halt
  refine for_range (led1 _) (fun _ => []) [Str.ofString "at"] (fun i c => IntsAre c.1 ((List.range i).map (fun j => Int.fmod ((if j < xs.length then xs.getD j 0 else 0) + (if j < ys.length then ys.getD j 0 else 0)) p))) ([], 0) rfl (by assumption) (small_one (by omega) (by omega) (by omega) (by omega)) (rangeSize_nat _ _) rfl rfl (by assumption) (by assumption) (by kst_all) .nil ?_ ?_
  · rintro c0 i t u h tk own hi hoff hI F' N' Rq hRq
    obtain ⟨ws, n⟩ := c0
    change OwnOff own [_] at hoff
    change IntsAre ws _ at hI
    change Fr s.heap L h _ at F'
    change News s.heap L h ((_, listOf _ n) :: own) at N'
    have hz : ws.toArray.size ≤ sizeLine := by
      have := hI.length
      rw [PySem.sizeLine_eq, List.size_toArray, this, List.length_map, List.length_range]
      omega
    (repeat' (first | (k_here; (with_reducible show wpAny _ _ (call (Value.ref 35) [Value.ref _]) _ _ _); k_dflt (refine' use_L (mtrim_ok ?x1 ?x2 ?x3 ?x4 ?x5) ?k1 ?k2 ?_ rfl ?d1 ?d2; (case k1 => k_asm); (case k2 => k_asm); (case x1 => k_in); (case x2 => exact Top.keeps (by assumption) (Fr.keep (by k_asm))); (case x3 => is_list); (case x4 => l_ints); (case x5 => assumption); (case d1 => exact Nat.le_of_ble_eq_true rfl); (case d2 => exact Nat.le_of_ble_eq_true rfl)); (intro l' vs' n' h' tk' F' N' ne' i'); (try k_sweep)) | walk1 | (dsimp only; walk1)))
    all_goals (
      refine hRq _ _ ?_
      dsimp only [TurnPost]
      rename News _ _ _ _ => N9
      rename Fr _ _ _ _ => F9
      simp only [List.push_toArray] at N9
      refine TurnEnd.one F9 N9 hoff (by kst_all) (by intro z h2 h3; simp only [List.contains_cons, List.contains_nil, Bool.or_false, Bool.or_eq_false_iff, beq_eq_false_iff_ne, ne_eq] at h3; (try simp only [List.forall_mem_cons, List.not_mem_nil, false_implies, implies_true, and_true, ne_eq] at h2); simp [h2, h3, mapB, kstB]) ?_
      have e : (0 + (i : Int) * 1).toNat = i := by omega
      refine IntsAre.snoc hI ?_
      rw [e]
      (repeat' split) <;> (first | rfl | (exfalso; omega)))
  · rintro ⟨ws, n⟩ u h tk hI F' N'
    have e : ((if (ys.length : Int) > xs.length then (ys.length : Int) else xs.length) - 0).toNat = max xs.length ys.length := by split <;> omega
    rw [e] at hI
    change IntsAre ws (maddR p xs ys) at hI
    change Fr s.heap L h _ at F'
    change News s.heap L h [(_, listOf _ n)] at N'
    have hlen : (maddR p xs ys).length < 1000 := by simp only [maddR, List.length_map, List.length_range]; omega
    dsimp only
    (repeat' (first | (k_here; (with_reducible show wpAny _ _ (call (Value.ref 35) [Value.ref _]) _ _ _); k_dflt (refine' use_L (mtrim_ok ?x1 ?x2 ?x3 ?x4 ?x5) ?k1 ?k2 ?_ rfl ?d1 ?d2; (case k1 => k_asm); (case k2 => k_asm); (case x1 => k_in); (case x2 => exact Top.keeps (by assumption) (Fr.keep (by k_asm))); (case x3 => is_list); (case x4 => l_ints); (case x5 => assumption); (case d1 => exact Nat.le_of_ble_eq_true rfl); (case d2 => exact Nat.le_of_ble_eq_true rfl)); (intro l' vs' n' h' tk' F' N' ne' i'); (try k_sweep)) | walk1 | (dsimp only; walk1)))
    rename News _ _ _ _ => N9
    rename Fr _ _ _ _ => F9
    rename IntsAre _ _ => i9
    exact hQ _ _ _ F9.keep (NewL.of N9 (.head _) i9)
end
theorem top_off_F4 : True := by
  w_top off
  trivial

section
set_option maxRecDepth 100000
set_option linter.unusedVariables false
set_option linter.unusedSimpArgs false
open PySem PySem.W PySem.Calls PyProof.Rows PySem.Spec
theorem fill_F4 : PySem.Challenge.rw_nn0250_01 = PySem.Challenge.rw_nn0250_01 ∧ hd.heap_39 = hd.heap_39 := by
  k_fill
  exact ⟨rfl, rfl⟩

noncomputable def mulIn (p : Int) (i : Nat) (one : Int) (b : List Int) : Nat → List Int → List Int
  | 0, F => F
  | j + 1, F => (mulIn p i one b j F).set (i + j) (Int.fmod ((mulIn p i one b j F).getD (i + j) 0 + one * b.getD j 0) p)
noncomputable def mulOut (p : Int) (a b : List Int) : Nat → List Int → List Int
  | 0, F => F
  | i + 1, F => if a.getD i 0 ≠ 0 then mulIn p i (a.getD i 0) b b.length (mulOut p a b i F) else mulOut p a b i F
noncomputable def mmulI (p : Int) (a b : List Int) : List Int := if a.length = 0 ∨ b.length = 0 then [] else trimI (mulOut p a b a.length (List.replicate (a.length + b.length - 1) 0))
theorem mulIn_length {p : Int} {i : Nat} {one : Int} {b : List Int} : ∀ {j : Nat} {F : List Int}, (mulIn p i one b j F).length = F.length
  | 0, F => rfl
  | j + 1, F => by rw [mulIn, List.length_set, mulIn_length]
theorem mulOut_length {p : Int} {a b : List Int} : ∀ {i : Nat} {F : List Int}, (mulOut p a b i F).length = F.length
  | 0, F => rfl
  | i + 1, F => by
    rw [mulOut]
    split
    · rw [mulIn_length, mulOut_length]
    · exact mulOut_length


set_option maxHeartbeats 4000000 in
theorem mmul_ok : ∀ {w : World} {mean : ExcName → Option Value} {mg mb : Str → Option Value} {s : Shared} {a b : Addr} {us vs : List Value} {xs ys : List Int} {p : Int} {tp : Tok}
    (_ : (hd.heap_39 w.params).In s.heap) (_ : Top hd.view_39 (looseW hd.view_39 []) mean mg mb s.heap)
    (_ : s.heap.IsList a us.toArray) (_ : IntsAre us xs) (_ : s.heap.IsList b vs.toArray) (_ : IntsAre vs ys) (_ : xs.length < 100) (_ : ys.length < 100) (_ : (p = 2 ∨ p = 3 ∨ p = 5)) (_ : (∀ i, 0 ≤ xs.getD i 0 ∧ xs.getD i 0 < 100)) (_ : (∀ i, 0 ≤ ys.getD i 0 ∧ ys.getD i 0 < 100)), Fn w 1 73 s [.ref a, .ref b, .int p tp] (NewL s.heap (mmulI p xs ys)) := by
  intro w mean mg mb s a b us vs xs ys p tp X T h1 h2 h3 h4 h5 h6 h7 h8 h9
  intro Q E hQ
  refine wpAny_call ?_
  refine enter (binds := [(Str.ofString "a", .ref a), (Str.ofString "b", .ref b), (Str.ofString "p", .int p tp)]) (by assumption) (by assumption) (by k_is) (by k_is) (by decide) (BindsTo.of_eq rfl) (locs rfl) ?_ (by decide) rfl rfl rfl
  intro L h₁ F N
  k_fold
  have hp0 : p ≠ 0 := by omega
  (repeat' (first | (k_here; (with_reducible show wpAny _ _ (call (Value.ref 35) [Value.ref _]) _ _ _); k_dflt (refine' use_L (mtrim_ok ?x1 ?x2 ?x3 ?x4 ?x5) ?k1 ?k2 ?_ rfl ?d1 ?d2; (case k1 => k_asm); (case k2 => k_asm); (case x1 => k_in); (case x2 => exact Top.keeps (by assumption) (Fr.keep (by k_asm))); (case x3 => is_list); (case x4 => l_ints); (case x5 => assumption); (case d1 => exact Nat.le_of_ble_eq_true rfl); (case d2 => exact Nat.le_of_ble_eq_true rfl)); (intro l' vs' n' h' tk' F' N' ne' i'); (try k_sweep)) | walk1 | (dsimp only; walk1)))
  · rename News _ _ _ _ => N9
    rename Fr _ _ _ _ => F9
    refine hQ _ _ _ F9.keep ?_
    have e : mmulI p xs ys = [] := by rw [mmulI, if_pos (.inl (by omega))]
    rw [e]
    exact NewL.of (vs := []) N9 (.head _) .nil
  · rename News _ _ _ _ => N9
    rename Fr _ _ _ _ => F9
    refine hQ _ _ _ F9.keep ?_
    have e : mmulI p xs ys = [] := by rw [mmulI, if_pos (.inr (by omega))]
    rw [e]
    exact NewL.of (vs := []) N9 (.head _) .nil
  · unfold Halt
    rename IntsAre _ _ => i0
    rename News _ _ _ _ => N0
    rw [rep_flat, show ((xs.length : Int) + ys.length - 1).toNat = xs.length + ys.length - 1 by omega] at i0
    replace N0 := News.first N0
    rw [show ((xs.length : Int) + ys.length - 1).toNat = xs.length + ys.length - 1 by omega] at N0
    generalize (List.replicate _ [Value.int 0 _]).flatten = ws0 at N0 i0
    generalize hZ : List.replicate (xs.length + ys.length - 1) (0 : Int) = Z at i0
    have hZl : Z.length = xs.length + ys.length - 1 := by rw [← hZ, List.length_replicate]
    refine For_turns (by assumption) ?_
    (repeat' (first | (k_here; (with_reducible show wpAny _ _ (call (Value.ref 35) [Value.ref _]) _ _ _); k_dflt (refine' use_L (mtrim_ok ?x1 ?x2 ?x3 ?x4 ?x5) ?k1 ?k2 ?_ rfl ?d1 ?d2; (case k1 => k_asm); (case k2 => k_asm); (case x1 => k_in); (case x2 => exact Top.keeps (by assumption) (Fr.keep (by k_asm))); (case x3 => is_list); (case x4 => l_ints); (case x5 => assumption); (case d1 => exact Nat.le_of_ble_eq_true rfl); (case d2 => exact Nat.le_of_ble_eq_true rfl)); (intro l' vs' n' h' tk' F' N' ne' i'); (try k_sweep)) | walk1 | (dsimp only; walk1)))
    unfold Halt
    refine for_enum (led1 _) (fun _ => []) [Str.ofString "at", Str.ofString "one", Str.ofString "spot", Str.ofString "other"] (fun i c => IntsAre c.1 (mulOut p xs ys i Z)) (ws0, 0) rfl h1 h2 rfl rfl rfl (by assumption) N0 (by kst_all) i0 ?_ ?_
    · rintro c0 i t t' u h tk own hi hoff hI F' N' Rq hRq
      obtain ⟨ws, n⟩ := c0
      change OwnOff own [_] at hoff
      change IntsAre ws _ at hI
      change Fr s.heap L h _ at F'
      change News s.heap L h ((_, listOf _ n) :: own) at N'
      have hb1 := h8 i
      (repeat' (first | (k_here; (with_reducible show wpAny _ _ (call (Value.ref 35) [Value.ref _]) _ _ _); k_dflt (refine' use_L (mtrim_ok ?x1 ?x2 ?x3 ?x4 ?x5) ?k1 ?k2 ?_ rfl ?d1 ?d2; (case k1 => k_asm); (case k2 => k_asm); (case x1 => k_in); (case x2 => exact Top.keeps (by assumption) (Fr.keep (by k_asm))); (case x3 => is_list); (case x4 => l_ints); (case x5 => assumption); (case d1 => exact Nat.le_of_ble_eq_true rfl); (case d2 => exact Nat.le_of_ble_eq_true rfl)); (intro l' vs' n' h' tk' F' N' ne' i'); (try k_sweep)) | walk1 | (dsimp only; walk1)))
      · unfold Halt
        refine For_turns (by assumption) ?_
        (repeat' (first | (k_here; (with_reducible show wpAny _ _ (call (Value.ref 35) [Value.ref _]) _ _ _); k_dflt (refine' use_L (mtrim_ok ?x1 ?x2 ?x3 ?x4 ?x5) ?k1 ?k2 ?_ rfl ?d1 ?d2; (case k1 => k_asm); (case k2 => k_asm); (case x1 => k_in); (case x2 => exact Top.keeps (by assumption) (Fr.keep (by k_asm))); (case x3 => is_list); (case x4 => l_ints); (case x5 => assumption); (case d1 => exact Nat.le_of_ble_eq_true rfl); (case d2 => exact Nat.le_of_ble_eq_true rfl)); (intro l' vs' n' h' tk' F' N' ne' i'); (try k_sweep)) | walk1 | (dsimp only; walk1)))
        unfold Halt
        refine for_enum (ledR _ own) (fun _ => []) [Str.ofString "spot", Str.ofString "other"] (fun j c => IntsAre c.1 (mulIn p i (xs.getD i 0) ys j (mulOut p xs ys i Z))) (ws, n) rfl h3 h4 rfl rfl rfl (by assumption) N' (by kst_all) hI ?_ ?_
        · rintro c0 j t2 t2' u2 h2 tk2 own2 hj hoff2 hI2 F2 N2 Rq2 hRq2
          obtain ⟨ws2, n2⟩ := c0
          change OwnOff own2 (_ :: own.map _) at hoff2
          change IntsAre ws2 _ at hI2
          change Fr s.heap L h2 _ at F2
          change News s.heap L h2 ((_, listOf _ n2) :: (own ++ own2)) at N2
          have hne := off_app hoff hoff2
          have hb2 := h9 j
          have hl2 : (mulIn p i (xs.getD i 0) ys j (mulOut p xs ys i Z)).length = xs.length + ys.length - 1 := by rw [mulIn_length, mulOut_length, hZl]
          (repeat' (first | (k_here; (with_reducible show wpAny _ _ (call (Value.ref 35) [Value.ref _]) _ _ _); k_dflt (refine' use_L (mtrim_ok ?x1 ?x2 ?x3 ?x4 ?x5) ?k1 ?k2 ?_ rfl ?d1 ?d2; (case k1 => k_asm); (case k2 => k_asm); (case x1 => k_in); (case x2 => exact Top.keeps (by assumption) (Fr.keep (by k_asm))); (case x3 => is_list); (case x4 => l_ints); (case x5 => assumption); (case d1 => exact Nat.le_of_ble_eq_true rfl); (case d2 => exact Nat.le_of_ble_eq_true rfl)); (intro l' vs' n' h' tk' F' N' ne' i'); (try k_sweep)) | walk1 | (dsimp only; walk1)))
          (first | refine hRq2 _ _ ?_ | refine hRq _ _ ?_)
          dsimp only [TurnPost]
          rename News _ _ _ _ => N9
          rename Fr _ _ _ _ => F9
          refine TurnEnd.oneR F9 N9 hoff2 (by kst_all) (by intro z h2 h3; simp only [List.contains_cons, List.contains_nil, Bool.or_false, Bool.or_eq_false_iff, beq_eq_false_iff_ne, ne_eq] at h3; (try simp only [List.forall_mem_cons, List.not_mem_nil, false_implies, implies_true, and_true, ne_eq] at h2); simp [h2, h3, mapB, kstB]) ?_
          rename IntsAre _ _ => i9
          have e : ((i : Int) + j).toNat = i + j := by omega
          rw [e] at i9
          dsimp only
          rw [mulIn, e]
          exact i9
        · rintro ⟨ws2, n2⟩ u2 h2 tk2 hI2 F2 N2
          change IntsAre ws2 _ at hI2
          change Fr s.heap L h2 _ at F2
          change News s.heap L h2 ((_, listOf _ n2) :: own) at N2
          dsimp only
          (repeat' (first | (k_here; (with_reducible show wpAny _ _ (call (Value.ref 35) [Value.ref _]) _ _ _); k_dflt (refine' use_L (mtrim_ok ?x1 ?x2 ?x3 ?x4 ?x5) ?k1 ?k2 ?_ rfl ?d1 ?d2; (case k1 => k_asm); (case k2 => k_asm); (case x1 => k_in); (case x2 => exact Top.keeps (by assumption) (Fr.keep (by k_asm))); (case x3 => is_list); (case x4 => l_ints); (case x5 => assumption); (case d1 => exact Nat.le_of_ble_eq_true rfl); (case d2 => exact Nat.le_of_ble_eq_true rfl)); (intro l' vs' n' h' tk' F' N' ne' i'); (try k_sweep)) | walk1 | (dsimp only; walk1)))
          (first | refine hRq2 _ _ ?_ | refine hRq _ _ ?_)
          dsimp only [TurnPost]
          refine TurnEnd.one F2 N2 hoff (by kst_all) (by intro z h2 h3; simp only [List.contains_cons, List.contains_nil, Bool.or_false, Bool.or_eq_false_iff, beq_eq_false_iff_ne, ne_eq] at h3; (try simp only [List.forall_mem_cons, List.not_mem_nil, false_implies, implies_true, and_true, ne_eq] at h2); simp [h2, h3, mapB, kstB]) ?_
          dsimp only
          rw [mulOut, if_pos (by assumption)]
          exact hI2
      · (first | refine hRq2 _ _ ?_ | refine hRq _ _ ?_)
        dsimp only [TurnPost]
        refine TurnEnd.one F' N' hoff (by kst_all) (by intro z h2 h3; simp only [List.contains_cons, List.contains_nil, Bool.or_false, Bool.or_eq_false_iff, beq_eq_false_iff_ne, ne_eq] at h3; (try simp only [List.forall_mem_cons, List.not_mem_nil, false_implies, implies_true, and_true, ne_eq] at h2); simp [h2, h3, mapB, kstB]) ?_
        dsimp only
        rw [mulOut, if_neg (fun hn => hn (by assumption))]
        exact hI
    · rintro ⟨ws, n⟩ u h tk hI F' N'
      change IntsAre ws _ at hI
      change Fr s.heap L h _ at F'
      change News s.heap L h [(_, listOf _ n)] at N'
      have hlen : (mulOut p xs ys xs.length Z).length < 1000 := by rw [mulOut_length, hZl]; omega
      dsimp only
      (repeat' (first | (k_here; (with_reducible show wpAny _ _ (call (Value.ref 35) [Value.ref _]) _ _ _); k_dflt (refine' use_L (mtrim_ok ?x1 ?x2 ?x3 ?x4 ?x5) ?k1 ?k2 ?_ rfl ?d1 ?d2; (case k1 => k_asm); (case k2 => k_asm); (case x1 => k_in); (case x2 => exact Top.keeps (by assumption) (Fr.keep (by k_asm))); (case x3 => is_list); (case x4 => l_ints); (case x5 => assumption); (case d1 => exact Nat.le_of_ble_eq_true rfl); (case d2 => exact Nat.le_of_ble_eq_true rfl)); (intro l' vs' n' h' tk' F' N' ne' i'); (try k_sweep)) | walk1 | (dsimp only; walk1)))
      rename News _ _ _ _ => N9
      rename Fr _ _ _ _ => F9
      rename IntsAre _ _ => i9
      have e : mmulI p xs ys = trimI (mulOut p xs ys xs.length Z) := by rw [mmulI, if_neg (by omega), hZ]
      exact hQ _ _ _ F9.keep (e ▸ NewL.of N9 (.head _) i9)
end
end
theorem top_off_F6 : True := by
  w_top off
  trivial

section
set_option maxRecDepth 100000
set_option linter.unusedVariables false
set_option linter.unusedSimpArgs false
open PySem PySem.W PySem.Calls PyProof.Rows PySem.Spec
theorem fill_F6 : PySem.Challenge.rw_nn0250_01 = PySem.Challenge.rw_nn0250_01 ∧ hd.heap_39 = hd.heap_39 := by
  k_fill
  exact ⟨rfl, rfl⟩

noncomputable def msubI (p : Int) (a b : List Int) : List Int := maddI p a (mnegI p b)


set_option maxHeartbeats 4000000 in
theorem msub_ok : ∀ {w : World} {mean : ExcName → Option Value} {mg mb : Str → Option Value} {s : Shared} {a b : Addr} {us vs : List Value} {xs ys : List Int} {p : Int} {tp : Tok}
    (_ : (hd.heap_39 w.params).In s.heap) (_ : Top hd.view_39 (looseW hd.view_39 []) mean mg mb s.heap)
    (_ : s.heap.IsList a us.toArray) (_ : IntsAre us xs) (_ : s.heap.IsList b vs.toArray) (_ : IntsAre vs ys) (_ : xs.length < 1000) (_ : ys.length < 1000) (_ : (p = 2 ∨ p = 3 ∨ p = 5)), Fn w 2 61 s [.ref a, .ref b, .int p tp] (NewL s.heap (msubI p xs ys)) := by
  intro w mean mg mb s a b us vs xs ys p tp X T h1 h2 h3 h4 h5 h6 h7
  intro Q E hQ
  refine wpAny_call ?_
  refine enter (binds := [(Str.ofString "a", .ref a), (Str.ofString "b", .ref b), (Str.ofString "p", .int p tp)]) (by assumption) (by assumption) (by k_is) (by k_is) (by decide) (BindsTo.of_eq rfl) (locs rfl) ?_ (by decide) rfl rfl rfl
  intro L h₁ F N
  k_fold
  have hl : (mnegI p ys).length < 1000 := by rw [mnegI, List.length_map]; exact h6
  (repeat' (first | (k_here; (with_reducible show wpAny _ _ (call (Value.ref 49) [Value.ref _, Value.ref _, Value.int _ _]) _ _ _); k_dflt (refine' use_L (madd_ok ?x1 ?x2 ?x3 ?x4 ?x5 ?x6 ?x7 ?x8 ?x9) ?k1 ?k2 ?_ rfl ?d1 ?d2; (case k1 => k_asm); (case k2 => k_asm); (case x1 => k_in); (case x2 => exact Top.keeps (by assumption) (Fr.keep (by k_asm))); (case x3 => is_list); (case x4 => l_ints); (case x5 => is_list); (case x6 => l_ints); (case x7 => assumption); (case x8 => assumption); (case x9 => assumption); (case d1 => exact Nat.le_of_ble_eq_true rfl); (case d2 => exact Nat.le_of_ble_eq_true rfl)); (intro l' vs' n' h' tk' F' N' ne' i'); (try k_sweep)) | (k_here; (with_reducible show wpAny _ _ (call (Value.ref 54) [Value.ref _, Value.int _ _]) _ _ _); k_dflt (refine' use_L (mneg_ok ?x1 ?x2 ?x3 ?x4 ?x5 ?x6) ?k1 ?k2 ?_ rfl ?d1 ?d2; (case k1 => k_asm); (case k2 => k_asm); (case x1 => k_in); (case x2 => exact Top.keeps (by assumption) (Fr.keep (by k_asm))); (case x3 => is_list); (case x4 => l_ints); (case x5 => assumption); (case x6 => assumption); (case d1 => exact Nat.le_of_ble_eq_true rfl); (case d2 => exact Nat.le_of_ble_eq_true rfl)); (intro l' vs' n' h' tk' F' N' ne' i'); (try k_sweep)) | walk1 | (dsimp only; walk1)))
  rename News _ _ _ _ => N9
  rename Fr _ _ _ _ => F9
  rename IntsAre _ (maddI _ _ _) => i9
  exact hQ _ _ _ F9.keep (NewL.of N9 (.head _) i9)
end
section
local macro_rules | `(tactic| omega) => `(tactic| lia)
theorem top_off_F7 : True := by
  w_top off
  trivial

section
set_option maxRecDepth 100000
set_option linter.unusedVariables false
set_option linter.unusedSimpArgs false
open PySem PySem.W PySem.Calls PyProof.Rows PySem.Spec
theorem fill_F7 : PySem.Challenge.rw_nn0250_01 = PySem.Challenge.rw_nn0250_01 ∧ hd.heap_39 = hd.heap_39 := by
  k_fill
  exact ⟨rfl, rfl⟩

noncomputable def divIn (p : Int) (i : Nat) (number : Int) (b : List Int) : Nat → List Int → List Int
  | 0, F => F
  | j + 1, F => (divIn p i number b j F).set (i + j) (Int.fmod ((divIn p i number b j F).getD (i + j) 0 - number * b.getD j 0) p)
/-- one turn at the place at -/
noncomputable def divNum (p turn : Int) (b : List Int) (at' : Nat) (F : List Int) : Int := Int.fmod (F.getD (at' + b.length - 1) 0 * turn) p
noncomputable def divStep (p turn : Int) (b : List Int) (at' : Nat) (c : List Int × List Int) : List Int × List Int :=
  (if divNum p turn b at' c.1 ≠ 0 then divIn p at' (divNum p turn b at' c.1) b b.length c.1 else c.1, c.2.set at' (divNum p turn b at' c.1))
noncomputable def divOut (p turn : Int) (b : List Int) (D : Nat) (c : List Int × List Int) : Nat → List Int × List Int
  | 0 => c
  | i + 1 => divStep p turn b (D - i) (divOut p turn b D c i)
noncomputable def mdivmodI (p : Int) (a b : List Int) : List Int × List Int :=
  let c := divOut p (invI p (b.getD (b.length - 1) 0)) b (a.length - b.length) (a, List.replicate (a.length + 1 - b.length) 0) (a.length + 1 - b.length)
  (trimI c.2, trimI (c.1.take (b.length - 1)))
noncomputable abbrev Rg (p : Int) (xs : List Int) : Prop := ∀ i, 0 ≤ xs.getD i 0 ∧ xs.getD i 0 < p
theorem Rg.set {p : Int} {xs : List Int} {i : Nat} {x : Int} (h : Rg p xs) (h0 : 0 ≤ x ∧ x < p) : Rg p (xs.set i x) := fun j => by
  by_cases e : i = j ∧ i < xs.length
  · obtain ⟨rfl, hl⟩ := e
    rw [List.getD_eq_getElem?_getD, List.getElem?_set_self hl]; exact h0
  · have : (xs.set i x).getD j 0 = xs.getD j 0 := by
      by_cases e1 : i = j
      · subst e1
        rw [List.set_eq_of_length_le (by omega)]
      · rw [List.getD_eq_getElem?_getD, List.getElem?_set_ne e1, List.getD_eq_getElem?_getD]
    rw [this]; exact h j
theorem fmod_rg {p : Int} (x : Int) (hp : 0 < p) : 0 ≤ Int.fmod x p ∧ Int.fmod x p < p := ⟨Int.fmod_nonneg_of_pos x hp, Int.fmod_lt_of_pos x hp⟩
theorem divIn_length {p : Int} {i : Nat} {one : Int} {b : List Int} : ∀ {j : Nat} {F : List Int}, (divIn p i one b j F).length = F.length
  | 0, F => rfl
  | j + 1, F => by rw [divIn, List.length_set, divIn_length]
theorem divIn_rg {p : Int} {i : Nat} {one : Int} {b : List Int} (hp : 0 < p) : ∀ {j : Nat} {F : List Int}, Rg p F → Rg p (divIn p i one b j F)
  | 0, F, h => h
  | j + 1, F, h => (divIn_rg hp h).set (fmod_rg _ hp)
theorem divStep_length {p t : Int} {k : Nat} {b : List Int} {c : List Int × List Int} : (divStep p t b k c).1.length = c.1.length ∧ (divStep p t b k c).2.length = c.2.length := by
  refine ⟨?_, List.length_set ..⟩
  unfold divStep; dsimp only; split
  · exact divIn_length
  · rfl
theorem divStep_rg {p t : Int} {k : Nat} {b : List Int} {c : List Int × List Int} (hp : 0 < p) (h : Rg p c.1 ∧ Rg p c.2) : Rg p (divStep p t b k c).1 ∧ Rg p (divStep p t b k c).2 := by
  refine ⟨?_, h.2.set (fmod_rg _ hp)⟩
  unfold divStep; dsimp only; split
  · exact divIn_rg hp h.1
  · exact h.1
theorem divOut_length {p t : Int} {D : Nat} {b : List Int} {c : List Int × List Int} : ∀ {i : Nat}, (divOut p t b D c i).1.length = c.1.length ∧ (divOut p t b D c i).2.length = c.2.length
  | 0 => ⟨rfl, rfl⟩
  | i + 1 => ⟨divStep_length.1.trans divOut_length.1, divStep_length.2.trans divOut_length.2⟩
theorem divOut_rg {p t : Int} {D : Nat} {b : List Int} {c : List Int × List Int} (hp : 0 < p) (h : Rg p c.1 ∧ Rg p c.2) : ∀ {i : Nat}, Rg p (divOut p t b D c i).1 ∧ Rg p (divOut p t b D c i).2
  | 0 => h
  | i + 1 => divStep_rg hp (divOut_rg hp h)


set_option maxHeartbeats 4000000 in
theorem mdivmod_ok : ∀ {w : World} {mean : ExcName → Option Value} {mg mb : Str → Option Value} {s : Shared} {a b : Addr} {us vs : List Value} {xs ys : List Int} {p : Int} {tp : Tok}
    (_ : (hd.heap_39 w.params).In s.heap) (_ : Top hd.view_39 (looseW hd.view_39 []) mean mg mb s.heap)
    (_ : s.heap.IsList a us.toArray) (_ : IntsAre us xs) (_ : s.heap.IsList b vs.toArray) (_ : IntsAre vs ys) (_ : xs.length < 100) (_ : ys.length < 100) (_ : (p = 2 ∨ p = 3 ∨ p = 5)) (_ : Rg p xs) (_ : Rg p ys) (_ : 0 < ys.length) (_ : ys.getD (ys.length - 1) 0 ≠ 0), Fn w 2 80 s [.ref a, .ref b, .int p tp] (NewLL s.heap (mdivmodI p xs ys).1 (mdivmodI p xs ys).2) := by
  intro w mean mg mb s a b us vs xs ys p tp X T h1 h2 h3 h4 h5 h6 h7 h8 h9 h10 h11
  intro Q E hQ
  refine wpAny_call ?_
  refine enter (binds := [(Str.ofString "a", .ref a), (Str.ofString "b", .ref b), (Str.ofString "p", .int p tp)]) (by assumption) (by assumption) (by k_is) (by k_is) (by decide) (BindsTo.of_eq rfl) (locs rfl) ?_ (by decide) rfl rfl rfl
  intro L h₁ F N
  k_fold
  have hp0 : p ≠ 0 := by omega
  have hpp : 0 < p := by omega
  have e1 : (-1 + (ys.length : Int)).toNat = ys.length - 1 := by omega
  have hlast : 0 < ys.getD (-1 + (ys.length : Int)).toNat 0 ∧ ys.getD (-1 + (ys.length : Int)).toNat 0 < p := by
    have := h9 (ys.length - 1)
    rw [e1]; omega
  (repeat' (first | (k_here; (with_reducible show wpAny _ _ (call (Value.ref 28) [Value.int _ _, Value.int _ _]) _ _ _); k_dflt (refine' use_I (inverse_mod_ok ?x1 ?x2 ?x3 ?x4) ?k1 ?k2 ?_ rfl ?d1 ?d2; (case k1 => k_asm); (case k2 => k_asm); (case x1 => k_in); (case x2 => exact Top.keeps (by assumption) (Fr.keep (by k_asm))); (case x3 => assumption); (case x4 => assumption); (case d1 => exact Nat.le_of_ble_eq_true rfl); (case d2 => exact Nat.le_of_ble_eq_true rfl)); (intro t' h' tk' F' N'); (try k_sweep)) | (k_here; (with_reducible show wpAny _ _ (call (Value.ref 35) [Value.ref _]) _ _ _); k_dflt (refine' use_L (mtrim_ok ?x1 ?x2 ?x3 ?x4 ?x5) ?k1 ?k2 ?_ rfl ?d1 ?d2; (case k1 => k_asm); (case k2 => k_asm); (case x1 => k_in); (case x2 => exact Top.keeps (by assumption) (Fr.keep (by k_asm))); (case x3 => is_list); (case x4 => l_ints); (case x5 => assumption); (case d1 => exact Nat.le_of_ble_eq_true rfl); (case d2 => exact Nat.le_of_ble_eq_true rfl)); (intro l' vs' n' h' tk' F' N' ne' i'); (try k_sweep)) | walk1 | (dsimp only; walk1)))
  unfold Halt
  refine For_turns (by assumption) ?_
  (repeat' (first | (k_here; (with_reducible show wpAny _ _ (call (Value.ref 28) [Value.int _ _, Value.int _ _]) _ _ _); k_dflt (refine' use_I (inverse_mod_ok ?x1 ?x2 ?x3 ?x4) ?k1 ?k2 ?_ rfl ?d1 ?d2; (case k1 => k_asm); (case k2 => k_asm); (case x1 => k_in); (case x2 => exact Top.keeps (by assumption) (Fr.keep (by k_asm))); (case x3 => assumption); (case x4 => assumption); (case d1 => exact Nat.le_of_ble_eq_true rfl); (case d2 => exact Nat.le_of_ble_eq_true rfl)); (intro t' h' tk' F' N'); (try k_sweep)) | (k_here; (with_reducible show wpAny _ _ (call (Value.ref 35) [Value.ref _]) _ _ _); k_dflt (refine' use_L (mtrim_ok ?x1 ?x2 ?x3 ?x4 ?x5) ?k1 ?k2 ?_ rfl ?d1 ?d2; (case k1 => k_asm); (case k2 => k_asm); (case x1 => k_in); (case x2 => exact Top.keeps (by assumption) (Fr.keep (by k_asm))); (case x3 => is_list); (case x4 => l_ints); (case x5 => assumption); (case d1 => exact Nat.le_of_ble_eq_true rfl); (case d2 => exact Nat.le_of_ble_eq_true rfl)); (intro l' vs' n' h' tk' F' N' ne' i'); (try k_sweep)) | walk1 | (dsimp only; walk1)))
  unfold Halt
  rename News _ _ _ _ => N9
  rename Fr _ _ _ _ => F9
  rename IntsAre _ (List.flatten _) => i0
  have en : (if (xs.length : Int) - ys.length + 1 > 0 then (xs.length : Int) - ys.length + 1 else 0).toNat = xs.length + 1 - ys.length := by split <;> omega
  rw [rep_flat, en] at i0
  rw [en] at N9
  generalize (List.replicate _ [Value.int 0 _]).flatten = ws0 at N9 i0
  generalize hZ : List.replicate (xs.length + 1 - ys.length) (0 : Int) = Z at i0
  have hZl : Z.length = xs.length + 1 - ys.length := by rw [← hZ, List.length_replicate]
  have hZr : Rg p Z := fun i => by
    have : Z.getD i 0 = 0 := by
      rw [← hZ, List.getD_eq_getElem?_getD, List.getElem?_replicate]; split <;> rfl
    rw [this]; omega
  have N1 : News s.heap L _ (led2 _ _ ((us, _), (ws0, 0))) := News.sub N9 (List.forall_mem_cons.mpr ⟨.tail _ (.tail _ (.tail _ (.head _))), List.forall_mem_cons.mpr ⟨.tail _ (.head _), List.forall_mem_nil _⟩⟩)
  rw [e1] at F9 hlast
  rename _ < 0 → _ = 0 => q1
  rename 0 ≤ _ → _ = _ => q2
  rename List.length (List.flatten _) = _ => q3
  clear q1 q2 q3 en
  generalize ht : invI p (ys.getD (ys.length - 1) 0) = turn at F9
  have hturn : 0 ≤ turn ∧ turn < p := by rw [← ht]; exact (inv_facts h7 hlast).2.2
  have hn0 : ((xs.length : Int) - ys.length - -1).toNat = xs.length + 1 - ys.length := by omega
  refine for_range (led2 _ _) (fun _ => []) [Str.ofString "at", Str.ofString "number", Str.ofString "spot", Str.ofString "other"] (fun i c => IntsAre c.1.1 (divOut p turn ys (xs.length - ys.length) (xs, Z) i).1 ∧ IntsAre c.2.1 (divOut p turn ys (xs.length - ys.length) (xs, Z) i).2) ((us, _), (ws0, 0)) rfl (by assumption) (small_down (by omega) (by omega) (by omega) (by omega)) (rangeSize_downNat _ _) rfl rfl F9 N1 (by kst_all) ⟨h2, i0⟩ ?_ ?_
  · rintro c0 i t u h tk own hi hoff hP0 F' N' Rq hRq
    obtain ⟨⟨ws, n⟩, ⟨qs, m⟩⟩ := c0
    try dsimp only at hP0
    obtain ⟨hI, hJ⟩ := hP0
    change OwnOff own [_, _] at hoff
    change IntsAre ws _ at hI
    change IntsAre qs _ at hJ
    change Fr s.heap L h _ at F'
    change News s.heap L h ((_, listOf _ n) :: (_, listOf _ m) :: own) at N'
    rw [hn0] at hi
    have hl := divOut_length (p := p) (t := turn) (b := ys) (D := xs.length - ys.length) (c := (xs, Z)) (i := i)
    have hr := divOut_rg (p := p) (t := turn) (b := ys) (D := xs.length - ys.length) (c := (xs, Z)) hpp ⟨h8, hZr⟩ (i := i)
    have hnext : divOut p turn ys (xs.length - ys.length) (xs, Z) (i + 1) = divStep p turn ys (xs.length - ys.length - i) (divOut p turn ys (xs.length - ys.length) (xs, Z) i) := rfl
    rw [hnext] at hRq
    generalize divOut p turn ys (xs.length - ys.length) (xs, Z) i = c at hI hJ hl hr hRq
    obtain ⟨R, S⟩ := c
    dsimp only at hI hJ hl hr
    have eat : (xs.length : Int) - ys.length + i * -1 = ((xs.length - ys.length - i : Nat) : Int) := by omega
    rw [eat] at F'
    generalize hk : xs.length - ys.length - i = k at F' hRq
    have hk1 : k + ys.length ≤ xs.length := by omega
    have hbR := hr.1 (k + ys.length - 1)
    have ek : ((k : Int) + ys.length - 1).toNat = k + ys.length - 1 := by omega
    (repeat' (first | (k_here; (with_reducible show wpAny _ _ (call (Value.ref 28) [Value.int _ _, Value.int _ _]) _ _ _); k_dflt (refine' use_I (inverse_mod_ok ?x1 ?x2 ?x3 ?x4) ?k1 ?k2 ?_ rfl ?d1 ?d2; (case k1 => k_asm); (case k2 => k_asm); (case x1 => k_in); (case x2 => exact Top.keeps (by assumption) (Fr.keep (by k_asm))); (case x3 => assumption); (case x4 => assumption); (case d1 => exact Nat.le_of_ble_eq_true rfl); (case d2 => exact Nat.le_of_ble_eq_true rfl)); (intro t' h' tk' F' N'); (try k_sweep)) | (k_here; (with_reducible show wpAny _ _ (call (Value.ref 35) [Value.ref _]) _ _ _); k_dflt (refine' use_L (mtrim_ok ?x1 ?x2 ?x3 ?x4 ?x5) ?k1 ?k2 ?_ rfl ?d1 ?d2; (case k1 => k_asm); (case k2 => k_asm); (case x1 => k_in); (case x2 => exact Top.keeps (by assumption) (Fr.keep (by k_asm))); (case x3 => is_list); (case x4 => l_ints); (case x5 => assumption); (case d1 => exact Nat.le_of_ble_eq_true rfl); (case d2 => exact Nat.le_of_ble_eq_true rfl)); (intro l' vs' n' h' tk' F' N' ne' i'); (try k_sweep)) | walk1 | (dsimp only; walk1)))
    · unfold Halt
      refine For_turns (by assumption) ?_
      (repeat' (first | (k_here; (with_reducible show wpAny _ _ (call (Value.ref 28) [Value.int _ _, Value.int _ _]) _ _ _); k_dflt (refine' use_I (inverse_mod_ok ?x1 ?x2 ?x3 ?x4) ?k1 ?k2 ?_ rfl ?d1 ?d2; (case k1 => k_asm); (case k2 => k_asm); (case x1 => k_in); (case x2 => exact Top.keeps (by assumption) (Fr.keep (by k_asm))); (case x3 => assumption); (case x4 => assumption); (case d1 => exact Nat.le_of_ble_eq_true rfl); (case d2 => exact Nat.le_of_ble_eq_true rfl)); (intro t' h' tk' F' N'); (try k_sweep)) | (k_here; (with_reducible show wpAny _ _ (call (Value.ref 35) [Value.ref _]) _ _ _); k_dflt (refine' use_L (mtrim_ok ?x1 ?x2 ?x3 ?x4 ?x5) ?k1 ?k2 ?_ rfl ?d1 ?d2; (case k1 => k_asm); (case k2 => k_asm); (case x1 => k_in); (case x2 => exact Top.keeps (by assumption) (Fr.keep (by k_asm))); (case x3 => is_list); (case x4 => l_ints); (case x5 => assumption); (case d1 => exact Nat.le_of_ble_eq_true rfl); (case d2 => exact Nat.le_of_ble_eq_true rfl)); (intro l' vs' n' h' tk' F' N' ne' i'); (try k_sweep)) | walk1 | (dsimp only; walk1)))
      unfold Halt
      rename News _ _ _ _ => N8
      rename Fr _ _ _ _ => F8
      rename IntsAre (List.set _ _ _) _ => i8
      have hne : Int.fmod (R.getD ((k : Int) + ys.length - 1).toNat 0 * turn) p ≠ 0 := by assumption
      rw [ek, Int.toNat_natCast] at N8 i8
      rw [ek] at F8 hne
      have hnb := fmod_rg (R.getD (k + ys.length - 1) 0 * turn) hpp
      have hst : divStep p turn ys k (R, S) = (divIn p k (Int.fmod (R.getD (k + ys.length - 1) 0 * turn) p) ys ys.length R, S.set k (Int.fmod (R.getD (k + ys.length - 1) 0 * turn) p)) := by
        unfold divStep divNum
        dsimp only
        rw [if_pos hne]
      rw [hst] at hRq
      try dsimp only at hRq
      generalize Int.fmod (R.getD (k + ys.length - 1) 0 * turn) p = num at F8 N8 i8 hnb hRq
      generalize List.set qs _ _ = qs' at N8 i8
      refine for_enum (ledR _ (_ :: own)) (fun _ => []) [Str.ofString "spot", Str.ofString "other"] (fun j c => IntsAre c.1 (divIn p k num ys j R)) (ws, n) rfl h3 h4 rfl rfl rfl F8 N8 (by kst_all) hI ?_ ?_
      · rintro c0 j t2 t2' u2 h2 tk2 own2 hj hoff2 hI2 F2 N2 Rq2 hRq2
        obtain ⟨ws2, n2⟩ := c0
        change OwnOff own2 (_ :: _ :: own.map _) at hoff2
        change IntsAre ws2 _ at hI2
        change Fr s.heap L h2 _ at F2
        change News s.heap L h2 ((_, listOf _ n2) :: (_, listOf _ m) :: (own ++ own2)) at N2
        have hne2 : ∀ q ∈ own ++ own2, q.1 ≠ _ := fun q hq => (off_app2 hoff hoff2 q hq).1
        have hb2 := h9 j
        have hl2 : (divIn p k num ys j R).length = xs.length := divIn_length.trans hl.1
        (repeat' (first | (k_here; (with_reducible show wpAny _ _ (call (Value.ref 28) [Value.int _ _, Value.int _ _]) _ _ _); k_dflt (refine' use_I (inverse_mod_ok ?x1 ?x2 ?x3 ?x4) ?k1 ?k2 ?_ rfl ?d1 ?d2; (case k1 => k_asm); (case k2 => k_asm); (case x1 => k_in); (case x2 => exact Top.keeps (by assumption) (Fr.keep (by k_asm))); (case x3 => assumption); (case x4 => assumption); (case d1 => exact Nat.le_of_ble_eq_true rfl); (case d2 => exact Nat.le_of_ble_eq_true rfl)); (intro t' h' tk' F' N'); (try k_sweep)) | (k_here; (with_reducible show wpAny _ _ (call (Value.ref 35) [Value.ref _]) _ _ _); k_dflt (refine' use_L (mtrim_ok ?x1 ?x2 ?x3 ?x4 ?x5) ?k1 ?k2 ?_ rfl ?d1 ?d2; (case k1 => k_asm); (case k2 => k_asm); (case x1 => k_in); (case x2 => exact Top.keeps (by assumption) (Fr.keep (by k_asm))); (case x3 => is_list); (case x4 => l_ints); (case x5 => assumption); (case d1 => exact Nat.le_of_ble_eq_true rfl); (case d2 => exact Nat.le_of_ble_eq_true rfl)); (intro l' vs' n' h' tk' F' N' ne' i'); (try k_sweep)) | walk1 | (dsimp only; walk1)))
        (first | refine hRq2 _ _ ?_ | refine hRq _ _ ?_)
        dsimp only [TurnPost]
        rename News _ _ _ _ => N9
        rename Fr _ _ _ _ => F9
        rename IntsAre (List.set _ _ _) _ => i9
        refine TurnEnd.oneR F9 N9 hoff2 (by kst_all) (by intro z h2 h3; simp only [List.contains_cons, List.contains_nil, Bool.or_false, Bool.or_eq_false_iff, beq_eq_false_iff_ne, ne_eq] at h3; (try simp only [List.forall_mem_cons, List.not_mem_nil, false_implies, implies_true, and_true, ne_eq] at h2); simp [h2, h3, mapB, kstB]) ?_
        have e : ((k : Int) + j).toNat = k + j := by omega
        rw [e] at i9
        dsimp only
        rw [divIn, e]
        exact i9
      · rintro ⟨ws2, n2⟩ u2 h2 tk2 hI2 F2 N2
        change IntsAre ws2 _ at hI2
        change Fr s.heap L h2 _ at F2
        change News s.heap L h2 ((_, listOf _ n2) :: (_, listOf _ m) :: own) at N2
        dsimp only
        (repeat' (first | (k_here; (with_reducible show wpAny _ _ (call (Value.ref 28) [Value.int _ _, Value.int _ _]) _ _ _); k_dflt (refine' use_I (inverse_mod_ok ?x1 ?x2 ?x3 ?x4) ?k1 ?k2 ?_ rfl ?d1 ?d2; (case k1 => k_asm); (case k2 => k_asm); (case x1 => k_in); (case x2 => exact Top.keeps (by assumption) (Fr.keep (by k_asm))); (case x3 => assumption); (case x4 => assumption); (case d1 => exact Nat.le_of_ble_eq_true rfl); (case d2 => exact Nat.le_of_ble_eq_true rfl)); (intro t' h' tk' F' N'); (try k_sweep)) | (k_here; (with_reducible show wpAny _ _ (call (Value.ref 35) [Value.ref _]) _ _ _); k_dflt (refine' use_L (mtrim_ok ?x1 ?x2 ?x3 ?x4 ?x5) ?k1 ?k2 ?_ rfl ?d1 ?d2; (case k1 => k_asm); (case k2 => k_asm); (case x1 => k_in); (case x2 => exact Top.keeps (by assumption) (Fr.keep (by k_asm))); (case x3 => is_list); (case x4 => l_ints); (case x5 => assumption); (case d1 => exact Nat.le_of_ble_eq_true rfl); (case d2 => exact Nat.le_of_ble_eq_true rfl)); (intro l' vs' n' h' tk' F' N' ne' i'); (try k_sweep)) | walk1 | (dsimp only; walk1)))
        (first | refine hRq2 _ _ ?_ | refine hRq _ _ ?_)
        dsimp only [TurnPost]
        refine TurnEnd.two F2 N2 hoff (by kst_all) (by intro z h2 h3; simp only [List.contains_cons, List.contains_nil, Bool.or_false, Bool.or_eq_false_iff, beq_eq_false_iff_ne, ne_eq] at h3; (try simp only [List.forall_mem_cons, List.not_mem_nil, false_implies, implies_true, and_true, ne_eq] at h2); simp [h2, h3, mapB, kstB]) ?_
        exact ⟨hI2, i8⟩
    · (first | refine hRq2 _ _ ?_ | refine hRq _ _ ?_)
      dsimp only [TurnPost]
      rename News _ _ _ _ => N8
      rename Fr _ _ _ _ => F8
      rename IntsAre (List.set _ _ _) _ => i8
      have hne : Int.fmod (R.getD ((k : Int) + ys.length - 1).toNat 0 * turn) p = 0 := by assumption
      rw [ek] at hne
      rw [ek, Int.toNat_natCast] at N8 i8
      have hst : divStep p turn ys k (R, S) = (R, S.set k (Int.fmod (R.getD (k + ys.length - 1) 0 * turn) p)) := by
        unfold divStep divNum
        dsimp only
        rw [if_neg (fun h => h hne)]
      rw [hst]
      exact TurnEnd.two F8 N8 hoff (by kst_all) (by intro z h2 h3; simp only [List.contains_cons, List.contains_nil, Bool.or_false, Bool.or_eq_false_iff, beq_eq_false_iff_ne, ne_eq] at h3; (try simp only [List.forall_mem_cons, List.not_mem_nil, false_implies, implies_true, and_true, ne_eq] at h2); simp [h2, h3, mapB, kstB]) ⟨hI, i8⟩
  · rintro ⟨⟨ws, n⟩, ⟨qs, m⟩⟩ u h tk ⟨hI, hJ⟩ F' N'
    change IntsAre ws _ at hI
    change IntsAre qs _ at hJ
    change Fr s.heap L h _ at F'
    change News s.heap L h [(_, listOf _ n), (_, listOf _ m)] at N'
    rw [hn0] at hI hJ
    have hl := divOut_length (p := p) (t := turn) (b := ys) (D := xs.length - ys.length) (c := (xs, Z)) (i := xs.length + 1 - ys.length)
    have e9 : mdivmodI p xs ys = (trimI (divOut p turn ys (xs.length - ys.length) (xs, Z) (xs.length + 1 - ys.length)).2, trimI ((divOut p turn ys (xs.length - ys.length) (xs, Z) (xs.length + 1 - ys.length)).1.take (ys.length - 1))) := by
      rw [mdivmodI, ht, hZ]
    rw [e9] at hQ
    generalize divOut p turn ys (xs.length - ys.length) (xs, Z) (xs.length + 1 - ys.length) = c at hI hJ hl hQ
    obtain ⟨R, S⟩ := c
    dsimp only at hI hJ hl hQ
    have hS : S.length < 1000 := by omega
    have hT : (List.take ((ys.length : Int) - 1).toNat R).length < 1000 := by rw [List.length_take]; omega
    have e2 : ((ys.length : Int) - 1).toNat = ys.length - 1 := by omega
    dsimp only
    (repeat' (first | (k_here; (with_reducible show wpAny _ _ (call (Value.ref 28) [Value.int _ _, Value.int _ _]) _ _ _); k_dflt (refine' use_I (inverse_mod_ok ?x1 ?x2 ?x3 ?x4) ?k1 ?k2 ?_ rfl ?d1 ?d2; (case k1 => k_asm); (case k2 => k_asm); (case x1 => k_in); (case x2 => exact Top.keeps (by assumption) (Fr.keep (by k_asm))); (case x3 => assumption); (case x4 => assumption); (case d1 => exact Nat.le_of_ble_eq_true rfl); (case d2 => exact Nat.le_of_ble_eq_true rfl)); (intro t' h' tk' F' N'); (try k_sweep)) | (k_here; (with_reducible show wpAny _ _ (call (Value.ref 35) [Value.ref _]) _ _ _); k_dflt (refine' use_L (mtrim_ok ?x1 ?x2 ?x3 ?x4 ?x5) ?k1 ?k2 ?_ rfl ?d1 ?d2; (case k1 => k_asm); (case k2 => k_asm); (case x1 => k_in); (case x2 => exact Top.keeps (by assumption) (Fr.keep (by k_asm))); (case x3 => is_list); (case x4 => l_ints); (case x5 => assumption); (case d1 => exact Nat.le_of_ble_eq_true rfl); (case d2 => exact Nat.le_of_ble_eq_true rfl)); (intro l' vs' n' h' tk' F' N' ne' i'); (try k_sweep)) | walk1 | (dsimp only; walk1)))
    rename News _ _ _ _ => N9
    rename Fr _ _ _ _ => F9
    rename IntsAre _ (trimI (List.take _ _)) => i1
    rename IntsAre _ (trimI S) => i2
    rw [e2] at i1
    exact hQ _ _ _ F9.keep (NewLL.of N9 (.head _) (.tail _ (.tail _ (.tail _ (.head _)))) (.tail _ (.head _)) i2 i1)
end
end
theorem top_off_P2 : True := by
  w_top off
  trivial

section
set_option maxRecDepth 100000
set_option linter.unusedVariables false
set_option linter.unusedSimpArgs false
open PySem PySem.W PySem.Calls PyProof.Rows PySem.Spec
/-- the last place is not nought -/
noncomputable def Trm (xs : List Int) : Prop := 0 < xs.length → xs.getD (xs.length - 1) 0 ≠ 0
theorem trimI_trm : ∀ xs : List Int, Trm (trimI xs)
  | [] => fun h => absurd h (by simp [trimI])
  | x :: r => by
    have ih := trimI_trm r
    rw [trimI]
    cases h : trimI r with
    | nil =>
      by_cases hx : x = 0
      · simp [hx, Trm]
      · simp [hx, Trm]
    | cons y s =>
      intro _
      rw [h] at ih
      have := ih (by simp)
      simpa [Trm, List.getD_cons_succ] using this
theorem trimI_length : ∀ xs : List Int, (trimI xs).length ≤ xs.length
  | [] => by simp [trimI]
  | x :: r => by
    have ih := trimI_length r
    rw [trimI]
    cases h : trimI r with
    | nil => by_cases hx : x = 0 <;> simp [hx]
    | cons y s => rw [h] at ih; simp at ih ⊢; omega
theorem Rg.nil {p : Int} (hp : 0 < p) : Rg p [] := fun i => by simp [hp]
theorem Rg.cons {p x : Int} {xs : List Int} (hx : 0 ≤ x ∧ x < p) (h : Rg p xs) : Rg p (x :: xs) := fun i => by
  cases i with
  | zero => simpa using hx
  | succ i => simpa using h i
theorem Rg.head {p x : Int} {xs : List Int} (h : Rg p (x :: xs)) : 0 ≤ x ∧ x < p := by simpa using h 0
theorem Rg.tail {p x : Int} {xs : List Int} (h : Rg p (x :: xs)) : Rg p xs := fun i => by simpa using h (i + 1)
theorem Rg.trim {p : Int} (hp : 0 < p) : ∀ {xs : List Int}, Rg p xs → Rg p (trimI xs)
  | [], h => by rw [trimI]; exact h
  | x :: r, h => by
    have ih := h.tail.trim hp
    rw [trimI]
    cases hr : trimI r with
    | nil =>
      by_cases hx : x = 0
      · simpa [hx] using Rg.nil hp
      · simpa [hx] using (Rg.nil hp).cons h.head
    | cons y s => rw [hr] at ih; exact ih.cons h.head
theorem Rg.of_mem {p : Int} (hp : 0 < p) : ∀ {xs : List Int}, (∀ x ∈ xs, 0 ≤ x ∧ x < p) → Rg p xs
  | [], _ => Rg.nil hp
  | x :: r, h => (Rg.of_mem hp fun y hy => h y (.tail _ hy)).cons (h x (.head _))
theorem Rg.take {p : Int} (hp : 0 < p) {n : Nat} : ∀ {n : Nat} {xs : List Int}, Rg p xs → Rg p (xs.take n)
  | 0, _, _ => by simpa using Rg.nil hp
  | n + 1, [], h => by simpa using h
  | n + 1, x :: r, h => by rw [List.take_succ_cons]; exact (Rg.take hp (n := n) h.tail).cons h.head
theorem Rg.fmod_map {p : Int} {α : Type} (hp : 0 < p) (f : α → Int) (xs : List α) : Rg p (xs.map fun x => Int.fmod (f x) p) :=
  Rg.of_mem hp fun y hy => by
    obtain ⟨x, _, rfl⟩ := List.mem_map.mp hy
    exact fmod_rg _ hp
theorem Rg.zeros {p : Int} (hp : 0 < p) (n : Nat) : Rg p (List.replicate n 0) := Rg.of_mem hp fun y hy => by rw [List.eq_of_mem_replicate hy]; omega
theorem mulIn_rg {p : Int} {i : Nat} {one : Int} {b : List Int} (hp : 0 < p) : ∀ {j : Nat} {F : List Int}, Rg p F → Rg p (mulIn p i one b j F)
  | 0, F, h => h
  | j + 1, F, h => (mulIn_rg hp h).set (fmod_rg _ hp)
theorem mulOut_rg {p : Int} {a b : List Int} (hp : 0 < p) : ∀ {i : Nat} {F : List Int}, Rg p F → Rg p (mulOut p a b i F)
  | 0, F, h => h
  | i + 1, F, h => by
    rw [mulOut]; split
    · exact mulIn_rg hp (mulOut_rg hp h)
    · exact mulOut_rg hp h

/-- a polynomial modulo p, trimmed, of at most n places -/
structure Pn (n : Nat) (p : Int) (xs : List Int) : Prop where
  rg : Rg p xs
  trm : Trm xs
  len : xs.length ≤ n
noncomputable abbrev Po := Pn 20
noncomputable abbrev Pl := Pn 40
theorem Pn.trim {n : Nat} {p : Int} {xs : List Int} (hp : 0 < p) (h : Rg p xs) (hl : xs.length ≤ n) : Pn n p (trimI xs) := ⟨h.trim hp, trimI_trm xs, Nat.le_trans (trimI_length xs) hl⟩
theorem Po.lo {p : Int} {xs : List Int} (h : Po p xs) : Pl p xs := ⟨h.rg, h.trm, Nat.le_trans h.len (by decide)⟩
theorem Pn.lt {n m : Nat} {p : Int} {xs : List Int} (h : Pn n p xs) (hm : n < m) : xs.length < m := Nat.lt_of_le_of_lt h.len hm
theorem Pn.b100 {n : Nat} {p : Int} {xs : List Int} (h : Pn n p xs) (hp : p = 2 ∨ p = 3 ∨ p = 5) : ∀ i, 0 ≤ xs.getD i 0 ∧ xs.getD i 0 < 100 := fun i => by
  have := h.rg i
  omega
theorem Pn.nz {n : Nat} {p : Int} {xs : List Int} (h : Pn n p xs) (hl : 0 < xs.length) : xs.getD (xs.length - 1) 0 ≠ 0 := h.trm hl
section
variable {p : Int} {a b : List Int}
theorem pos_of (h : p = 2 ∨ p = 3 ∨ p = 5) : 0 < p := by omega
theorem Po.mul (hp : p = 2 ∨ p = 3 ∨ p = 5) (ha : Po p a) (hb : Po p b) : Pl p (mmulI p a b) := by
  have := ha.len
  have := hb.len
  unfold mmulI
  split
  · exact ⟨Rg.nil (pos_of hp), fun h => absurd h (by simp), by simp⟩
  · refine Pn.trim (pos_of hp) (mulOut_rg (pos_of hp) (Rg.zeros (pos_of hp) _)) ?_
    rw [mulOut_length, List.length_replicate]; omega
theorem maddR_length : (maddR p a b).length = max a.length b.length := by simp [maddR]
theorem Po.sub (hp : p = 2 ∨ p = 3 ∨ p = 5) (ha : Po p a) (hb : Po p b) : Po p (msubI p a b) := by
  have := ha.len
  have := hb.len
  refine Pn.trim (pos_of hp) (Rg.fmod_map (pos_of hp) _ _) ?_
  rw [maddR_length, mnegI, List.length_map]; omega
theorem div_facts {n m : Nat} (hp : p = 2 ∨ p = 3 ∨ p = 5) (ha : Pn n p a) (hb : Pn m p b) : Pn (a.length + 1 - b.length) p (mdivmodI p a b).1 ∧ Pn (b.length - 1) p (mdivmodI p a b).2 := by
  have hr := divOut_rg (p := p) (t := invI p (b.getD (b.length - 1) 0)) (b := b) (D := a.length - b.length) (c := (a, List.replicate (a.length + 1 - b.length) 0)) (pos_of hp) ⟨ha.rg, Rg.zeros (pos_of hp) _⟩ (i := a.length + 1 - b.length)
  have hl := divOut_length (p := p) (t := invI p (b.getD (b.length - 1) 0)) (b := b) (D := a.length - b.length) (c := (a, List.replicate (a.length + 1 - b.length) 0)) (i := a.length + 1 - b.length)
  refine ⟨Pn.trim (pos_of hp) hr.2 (by rw [hl.2, List.length_replicate]; exact Nat.le_refl _), Pn.trim (pos_of hp) (Rg.take (pos_of hp) (n := 0) hr.1) ?_⟩
  rw [List.length_take]; omega
noncomputable def mrestI (p : Int) (a b : List Int) : List Int := (mdivmodI p a b).2
noncomputable def mquotientI (p : Int) (a b : List Int) : List Int := (mdivmodI p a b).1
theorem Po.rest {n : Nat} (hp : p = 2 ∨ p = 3 ∨ p = 5) (ha : Pn n p a) (hb : Po p b) : Po p (mrestI p a b) := by
  have h := (div_facts hp ha hb).2
  have := hb.len
  exact ⟨h.rg, h.trm, Nat.le_trans h.len (by omega)⟩
theorem rest_lt {n : Nat} (hp : p = 2 ∨ p = 3 ∨ p = 5) (ha : Pn n p a) (hb : Po p b) (h0 : 0 < b.length) : (mrestI p a b).length < b.length := by
  have h := (div_facts hp ha hb).2.len
  unfold mrestI
  omega
theorem Po.quot {m : Nat} (hp : p = 2 ∨ p = 3 ∨ p = 5) (ha : Po p a) (hb : Pn m p b) (h0 : 0 < b.length) : Po p (mquotientI p a b) := by
  have h := (div_facts hp ha hb).1
  have := ha.len
  exact ⟨h.rg, h.trm, Nat.le_trans h.len (by omega)⟩
noncomputable def mmonicI (p : Int) (a : List Int) : List Int := if a.length = 0 then [] else mscaleI p (invI p (a.getD (a.length - 1) 0)) a
theorem Po.monic (hp : p = 2 ∨ p = 3 ∨ p = 5) (ha : Po p a) : Po p (mmonicI p a) := by
  unfold mmonicI
  split
  · exact ⟨Rg.nil (pos_of hp), fun h => absurd h (by simp), by simp⟩
  · exact Pn.trim (pos_of hp) (Rg.fmod_map (pos_of hp) _ _) (by rw [List.length_map]; exact ha.len)
theorem Po.lit1 (hp : p = 2 ∨ p = 3 ∨ p = 5) : Po p [1] := ⟨(Rg.nil (pos_of hp)).cons (by omega), fun _ => by simp, by simp⟩
theorem Po.litx (hp : p = 2 ∨ p = 3 ∨ p = 5) : Po p [0, 1] := ⟨((Rg.nil (pos_of hp)).cons (by omega)).cons (by omega), fun _ => by simp, by simp⟩
end
theorem a5 {a b c d e m : Prop} (h : a ∧ b ∧ c ∧ d ∧ e) (k : a → b → c → d → e → m) : m := k h.1 h.2.1 h.2.2.1 h.2.2.2.1 h.2.2.2.2
end
section
local macro_rules | `(tactic| omega) => `(tactic| lia)
theorem top_off_F8 : True := by
  w_top off
  trivial

section
set_option maxRecDepth 100000
set_option linter.unusedVariables false
set_option linter.unusedSimpArgs false
open PySem PySem.W PySem.Calls PyProof.Rows PySem.Spec
theorem fill_F8 : PySem.Challenge.rw_nn0250_01 = PySem.Challenge.rw_nn0250_01 ∧ hd.heap_39 = hd.heap_39 := by
  k_fill
  exact ⟨rfl, rfl⟩

section
variable {w : World} {mean : ExcName → Option Value} {mg mb : Str → Option Value} {s : Shared} {a b : Addr} {us vs : List Value} {xs ys : List Int} {p : Int} {tp : Tok}
theorem mdivmod_pl (X : (hd.heap_39 w.params).In s.heap) (T : Top hd.view_39 (looseW hd.view_39 []) mean mg mb s.heap) (h1 : s.heap.IsList a us.toArray) (h2 : IntsAre us xs) (h3 : s.heap.IsList b vs.toArray) (h4 : IntsAre vs ys)
    (hp : p = 2 ∨ p = 3 ∨ p = 5) (ha : Pl p xs) (hb : Po p ys) (h0 : 0 < ys.length) : Fn w 2 80 s [.ref a, .ref b, .int p tp] (NewLL s.heap (mdivmodI p xs ys).1 (mdivmodI p xs ys).2) :=
  mdivmod_ok X T h1 h2 h3 h4 (ha.lt (by decide)) (hb.lt (by decide)) hp ha.rg hb.rg h0 (hb.nz h0)
theorem mmul_po (X : (hd.heap_39 w.params).In s.heap) (T : Top hd.view_39 (looseW hd.view_39 []) mean mg mb s.heap) (h1 : s.heap.IsList a us.toArray) (h2 : IntsAre us xs) (h3 : s.heap.IsList b vs.toArray) (h4 : IntsAre vs ys)
    (hp : p = 2 ∨ p = 3 ∨ p = 5) (ha : Po p xs) (hb : Po p ys) : Fn w 1 73 s [.ref a, .ref b, .int p tp] (NewL s.heap (mmulI p xs ys)) :=
  mmul_ok X T h1 h2 h3 h4 (ha.lt (by decide)) (hb.lt (by decide)) hp (ha.b100 hp) (hb.b100 hp)
theorem msub_po (X : (hd.heap_39 w.params).In s.heap) (T : Top hd.view_39 (looseW hd.view_39 []) mean mg mb s.heap) (h1 : s.heap.IsList a us.toArray) (h2 : IntsAre us xs) (h3 : s.heap.IsList b vs.toArray) (h4 : IntsAre vs ys)
    (hp : p = 2 ∨ p = 3 ∨ p = 5) (ha : Po p xs) (hb : Po p ys) : Fn w 2 61 s [.ref a, .ref b, .int p tp] (NewL s.heap (msubI p xs ys)) :=
  msub_ok X T h1 h2 h3 h4 (ha.lt (by decide)) (hb.lt (by decide)) hp
theorem mscale_po {c : Int} {tc : Tok} (X : (hd.heap_39 w.params).In s.heap) (T : Top hd.view_39 (looseW hd.view_39 []) mean mg mb s.heap) (h1 : s.heap.IsList a us.toArray) (h2 : IntsAre us xs)
    (hp : p = 2 ∨ p = 3 ∨ p = 5) (ha : Po p xs) (hc : 0 ≤ c ∧ c < 100) : Fn w 1 66 s [.ref a, .int c tc, .int p tp] (NewL s.heap (mscaleI p c xs)) :=
  mscale_ok X T h1 h2 (ha.lt (by decide)) hp hc
end
section


set_option maxHeartbeats 4000000 in
theorem mrest_ok : ∀ {w : World} {mean : ExcName → Option Value} {mg mb : Str → Option Value} {s : Shared} {a b : Addr} {us vs : List Value} {xs ys : List Int} {p : Int} {tp : Tok}
    (_ : (hd.heap_39 w.params).In s.heap) (_ : Top hd.view_39 (looseW hd.view_39 []) mean mg mb s.heap)
    (_ : s.heap.IsList a us.toArray) (_ : IntsAre us xs) (_ : s.heap.IsList b vs.toArray) (_ : IntsAre vs ys) (_ : (p = 2 ∨ p = 3 ∨ p = 5)) (_ : Pl p xs) (_ : Po p ys) (_ : 0 < ys.length), Fn w 3 87 s [.ref a, .ref b, .int p tp] (NewL s.heap (mrestI p xs ys)) := by
  intro w mean mg mb s a b us vs xs ys p tp X T h1 h2 h3 h4 h5 h6 h7 h8
  intro Q E hQ
  refine wpAny_call ?_
  refine enter (binds := [(Str.ofString "a", .ref a), (Str.ofString "b", .ref b), (Str.ofString "p", .int p tp)]) (by assumption) (by assumption) (by k_is) (by k_is) (by decide) (BindsTo.of_eq rfl) (locs rfl) ?_ (by decide) rfl rfl rfl
  intro L h₁ F N
  k_fold
  (repeat' (first | (k_here; (with_reducible show wpAny _ _ (call (Value.ref 80) [Value.ref _, Value.ref _, Value.int _ _]) _ _ _); k_dflt (refine' use_LL (mdivmod_pl ?x1 ?x2 ?x3 ?x4 ?x5 ?x6 ?x7 ?x8 ?x9 ?x10) ?k1 ?k2 ?_ rfl ?d1 ?d2; (case k1 => k_asm); (case k2 => k_asm); (case x1 => k_in); (case x2 => exact Top.keeps (by assumption) (Fr.keep (by k_asm))); (case x3 => is_list); (case x4 => l_ints); (case x5 => is_list); (case x6 => l_ints); (case x7 => assumption); (case x8 => (repeat' (first | assumption | exact Po.lit1 (by assumption) | exact Po.litx (by assumption) | refine Po.sub (by assumption) ?_ ?_ | refine Po.mul (by assumption) ?_ ?_ | refine Po.monic (by assumption) ?_ | refine Po.rest (by assumption) (Po.mul (by assumption) ?_ ?_) ?_ | refine Po.rest (by assumption) ?_ ?_ | refine Po.quot (by assumption) ?_ ?_ ?_ | refine Po.lo ?_))); (case x9 => (repeat' (first | assumption | exact Po.lit1 (by assumption) | exact Po.litx (by assumption) | refine Po.sub (by assumption) ?_ ?_ | refine Po.mul (by assumption) ?_ ?_ | refine Po.monic (by assumption) ?_ | refine Po.rest (by assumption) (Po.mul (by assumption) ?_ ?_) ?_ | refine Po.rest (by assumption) ?_ ?_ | refine Po.quot (by assumption) ?_ ?_ ?_ | refine Po.lo ?_))); (case x10 => assumption); (case d1 => exact Nat.le_of_ble_eq_true rfl); (case d2 => exact Nat.le_of_ble_eq_true rfl)); (intro T' a' us' n' b' vs' n2' h' tk' F' N' i1' i2'); (try k_sweep)) | walk1 | (dsimp only; walk1)))
  rename News _ _ _ _ => N9
  rename Fr _ _ _ _ => F9
  exact hQ _ _ _ F9.keep (NewL.of N9 (.tail _ (.tail _ (.head _))) (by assumption))


set_option maxHeartbeats 4000000 in
theorem mquotient_ok : ∀ {w : World} {mean : ExcName → Option Value} {mg mb : Str → Option Value} {s : Shared} {a b : Addr} {us vs : List Value} {xs ys : List Int} {p : Int} {tp : Tok}
    (_ : (hd.heap_39 w.params).In s.heap) (_ : Top hd.view_39 (looseW hd.view_39 []) mean mg mb s.heap)
    (_ : s.heap.IsList a us.toArray) (_ : IntsAre us xs) (_ : s.heap.IsList b vs.toArray) (_ : IntsAre vs ys) (_ : (p = 2 ∨ p = 3 ∨ p = 5)) (_ : Pl p xs) (_ : Po p ys) (_ : 0 < ys.length), Fn w 3 94 s [.ref a, .ref b, .int p tp] (NewL s.heap (mquotientI p xs ys)) := by
  intro w mean mg mb s a b us vs xs ys p tp X T h1 h2 h3 h4 h5 h6 h7 h8
  intro Q E hQ
  refine wpAny_call ?_
  refine enter (binds := [(Str.ofString "a", .ref a), (Str.ofString "b", .ref b), (Str.ofString "p", .int p tp)]) (by assumption) (by assumption) (by k_is) (by k_is) (by decide) (BindsTo.of_eq rfl) (locs rfl) ?_ (by decide) rfl rfl rfl
  intro L h₁ F N
  k_fold
  (repeat' (first | (k_here; (with_reducible show wpAny _ _ (call (Value.ref 80) [Value.ref _, Value.ref _, Value.int _ _]) _ _ _); k_dflt (refine' use_LL (mdivmod_pl ?x1 ?x2 ?x3 ?x4 ?x5 ?x6 ?x7 ?x8 ?x9 ?x10) ?k1 ?k2 ?_ rfl ?d1 ?d2; (case k1 => k_asm); (case k2 => k_asm); (case x1 => k_in); (case x2 => exact Top.keeps (by assumption) (Fr.keep (by k_asm))); (case x3 => is_list); (case x4 => l_ints); (case x5 => is_list); (case x6 => l_ints); (case x7 => assumption); (case x8 => (repeat' (first | assumption | exact Po.lit1 (by assumption) | exact Po.litx (by assumption) | refine Po.sub (by assumption) ?_ ?_ | refine Po.mul (by assumption) ?_ ?_ | refine Po.monic (by assumption) ?_ | refine Po.rest (by assumption) (Po.mul (by assumption) ?_ ?_) ?_ | refine Po.rest (by assumption) ?_ ?_ | refine Po.quot (by assumption) ?_ ?_ ?_ | refine Po.lo ?_))); (case x9 => (repeat' (first | assumption | exact Po.lit1 (by assumption) | exact Po.litx (by assumption) | refine Po.sub (by assumption) ?_ ?_ | refine Po.mul (by assumption) ?_ ?_ | refine Po.monic (by assumption) ?_ | refine Po.rest (by assumption) (Po.mul (by assumption) ?_ ?_) ?_ | refine Po.rest (by assumption) ?_ ?_ | refine Po.quot (by assumption) ?_ ?_ ?_ | refine Po.lo ?_))); (case x10 => assumption); (case d1 => exact Nat.le_of_ble_eq_true rfl); (case d2 => exact Nat.le_of_ble_eq_true rfl)); (intro T' a' us' n' b' vs' n2' h' tk' F' N' i1' i2'); (try k_sweep)) | walk1 | (dsimp only; walk1)))
  rename News _ _ _ _ => N9
  rename Fr _ _ _ _ => F9
  exact hQ _ _ _ F9.keep (NewL.of N9 (.tail _ (.head _)) (by assumption))
end
section


set_option maxHeartbeats 4000000 in
theorem mmonic_ok : ∀ {w : World} {mean : ExcName → Option Value} {mg mb : Str → Option Value} {s : Shared} {a : Addr} {us : List Value} {xs : List Int} {p : Int} {tp : Tok}
    (_ : (hd.heap_39 w.params).In s.heap) (_ : Top hd.view_39 (looseW hd.view_39 []) mean mg mb s.heap)
    (_ : s.heap.IsList a us.toArray) (_ : IntsAre us xs) (_ : (p = 2 ∨ p = 3 ∨ p = 5)) (_ : Po p xs), Fn w 2 101 s [.ref a, .int p tp] (NewL s.heap (mmonicI p xs)) := by
  intro w mean mg mb s a us xs p tp X T h1 h2 h3 h4
  intro Q E hQ
  refine wpAny_call ?_
  refine enter (binds := [(Str.ofString "a", .ref a), (Str.ofString "p", .int p tp)]) (by assumption) (by assumption) (by k_is) (by k_is) (by decide) (BindsTo.of_eq rfl) (locs rfl) ?_ (by decide) rfl rfl rfl
  intro L h₁ F N
  k_fold
  have hlast : 0 < xs.length → 0 < xs.getD (-1 + (xs.length : Int)).toNat 0 ∧ xs.getD (-1 + (xs.length : Int)).toNat 0 < p := fun h => by
    have e1 : (-1 + (xs.length : Int)).toNat = xs.length - 1 := by omega
    have := h4.rg (xs.length - 1)
    have := h4.nz h
    rw [e1]; omega
  have hlen := h4.len
  by_cases h0 : 0 < xs.length
  · have e1 : (-1 + (xs.length : Int)).toNat = xs.length - 1 := by omega
    replace hlast := hlast h0
    have hinv := (inv_facts h3 hlast).2.2
    have hi1 : 0 ≤ invI p (xs.getD (-1 + (xs.length : Int)).toNat 0) ∧ invI p (xs.getD (-1 + (xs.length : Int)).toNat 0) < 100 := by omega
    have e9 : mmonicI p xs = mscaleI p (invI p (xs.getD (-1 + (xs.length : Int)).toNat 0)) xs := by rw [mmonicI, if_neg (by omega), e1]
    rw [e9] at hQ
    (repeat' (first | (k_here; (with_reducible show wpAny _ _ (call (Value.ref 66) [Value.ref _, Value.int _ _, Value.int _ _]) _ _ _); k_dflt (refine' use_L (mscale_po ?x1 ?x2 ?x3 ?x4 ?x5 ?x6 ?x7) ?k1 ?k2 ?_ rfl ?d1 ?d2; (case k1 => k_asm); (case k2 => k_asm); (case x1 => k_in); (case x2 => exact Top.keeps (by assumption) (Fr.keep (by k_asm))); (case x3 => is_list); (case x4 => l_ints); (case x5 => assumption); (case x6 => (repeat' (first | assumption | exact Po.lit1 (by assumption) | exact Po.litx (by assumption) | refine Po.sub (by assumption) ?_ ?_ | refine Po.mul (by assumption) ?_ ?_ | refine Po.monic (by assumption) ?_ | refine Po.rest (by assumption) (Po.mul (by assumption) ?_ ?_) ?_ | refine Po.rest (by assumption) ?_ ?_ | refine Po.quot (by assumption) ?_ ?_ ?_ | refine Po.lo ?_))); (case x7 => assumption); (case d1 => exact Nat.le_of_ble_eq_true rfl); (case d2 => exact Nat.le_of_ble_eq_true rfl)); (intro l' vs' n' h' tk' F' N' ne' i'); (try k_sweep)) | (k_here; (with_reducible show wpAny _ _ (call (Value.ref 28) [Value.int _ _, Value.int _ _]) _ _ _); k_dflt (refine' use_I (inverse_mod_ok ?x1 ?x2 ?x3 ?x4) ?k1 ?k2 ?_ rfl ?d1 ?d2; (case k1 => k_asm); (case k2 => k_asm); (case x1 => k_in); (case x2 => exact Top.keeps (by assumption) (Fr.keep (by k_asm))); (case x3 => assumption); (case x4 => assumption); (case d1 => exact Nat.le_of_ble_eq_true rfl); (case d2 => exact Nat.le_of_ble_eq_true rfl)); (intro t' h' tk' F' N'); (try k_sweep)) | walk1 | (dsimp only; walk1)))
    rename News _ _ _ _ => N9
    rename Fr _ _ _ _ => F9
    exact hQ _ _ _ F9.keep (NewL.of N9 (.head _) (by assumption))
  · have e9 : mmonicI p xs = [] := by rw [mmonicI, if_pos (by omega)]
    rw [e9] at hQ
    (repeat' (first | (k_here; (with_reducible show wpAny _ _ (call (Value.ref 66) [Value.ref _, Value.int _ _, Value.int _ _]) _ _ _); k_dflt (refine' use_L (mscale_po ?x1 ?x2 ?x3 ?x4 ?x5 ?x6 ?x7) ?k1 ?k2 ?_ rfl ?d1 ?d2; (case k1 => k_asm); (case k2 => k_asm); (case x1 => k_in); (case x2 => exact Top.keeps (by assumption) (Fr.keep (by k_asm))); (case x3 => is_list); (case x4 => l_ints); (case x5 => assumption); (case x6 => (repeat' (first | assumption | exact Po.lit1 (by assumption) | exact Po.litx (by assumption) | refine Po.sub (by assumption) ?_ ?_ | refine Po.mul (by assumption) ?_ ?_ | refine Po.monic (by assumption) ?_ | refine Po.rest (by assumption) (Po.mul (by assumption) ?_ ?_) ?_ | refine Po.rest (by assumption) ?_ ?_ | refine Po.quot (by assumption) ?_ ?_ ?_ | refine Po.lo ?_))); (case x7 => assumption); (case d1 => exact Nat.le_of_ble_eq_true rfl); (case d2 => exact Nat.le_of_ble_eq_true rfl)); (intro l' vs' n' h' tk' F' N' ne' i'); (try k_sweep)) | (k_here; (with_reducible show wpAny _ _ (call (Value.ref 28) [Value.int _ _, Value.int _ _]) _ _ _); k_dflt (refine' use_I (inverse_mod_ok ?x1 ?x2 ?x3 ?x4) ?k1 ?k2 ?_ rfl ?d1 ?d2; (case k1 => k_asm); (case k2 => k_asm); (case x1 => k_in); (case x2 => exact Top.keeps (by assumption) (Fr.keep (by k_asm))); (case x3 => assumption); (case x4 => assumption); (case d1 => exact Nat.le_of_ble_eq_true rfl); (case d2 => exact Nat.le_of_ble_eq_true rfl)); (intro t' h' tk' F' N'); (try k_sweep)) | walk1 | (dsimp only; walk1)))
    rename News _ _ _ _ => N9
    rename Fr _ _ _ _ => F9
    exact hQ _ _ _ F9.keep (NewL.of (vs := []) N9 (.head _) .nil)
end
end
theorem top_off_F9 : True := by
  w_top off
  trivial

section
set_option maxRecDepth 100000
set_option linter.unusedVariables false
set_option linter.unusedSimpArgs false
open PySem PySem.W PySem.Calls PyProof.Rows PySem.Spec
theorem fill_F9 : PySem.Challenge.rw_nn0250_01 = PySem.Challenge.rw_nn0250_01 ∧ hd.heap_39 = hd.heap_39 := by
  k_fill
  exact ⟨rfl, rfl⟩

noncomputable def gcdRun (p : Int) : Nat → List Int → List Int → List Int
  | 0, a, _ => a
  | k + 1, a, b => if b.length = 0 then a else gcdRun p k b (mrestI p a b)
noncomputable def mgcdI (p : Int) (a b : List Int) : List Int := mmonicI p (gcdRun p 20 a b)
theorem gcdRun_po {p : Int} (hp : p = 2 ∨ p = 3 ∨ p = 5) : ∀ {k : Nat} {a b : List Int}, Po p a → Po p b → Po p (gcdRun p k a b)
  | 0, a, _, h, _ => h
  | k + 1, a, b, h, g => by
    rw [gcdRun]; split
    · exact h
    · exact gcdRun_po hp g (Po.rest hp h g)
theorem Po.gcd {p : Int} {a b : List Int} (hp : p = 2 ∨ p = 3 ∨ p = 5) (h : Po p a) (g : Po p b) : Po p (mgcdI p a b) := Po.monic hp (gcdRun_po hp h g)
structure GS where
  a : Addr
  b : Addr
  us : List Value
  vs : List Value
  led : List (Addr × Obj)
  xs : List Int
  ys : List Int
  k : Nat
section


set_option maxHeartbeats 4000000 in
theorem mgcd_ok : ∀ {w : World} {mean : ExcName → Option Value} {mg mb : Str → Option Value} {s : Shared} {a b : Addr} {us vs : List Value} {xs ys : List Int} {p : Int} {tp : Tok}
    (_ : (hd.heap_39 w.params).In s.heap) (_ : Top hd.view_39 (looseW hd.view_39 []) mean mg mb s.heap)
    (_ : s.heap.IsList a us.toArray) (_ : IntsAre us xs) (_ : s.heap.IsList b vs.toArray) (_ : IntsAre vs ys) (_ : (p = 2 ∨ p = 3 ∨ p = 5)) (_ : Po p xs) (_ : Po p ys), Fn w 4 115 s [.ref a, .ref b, .int p tp] (NewL s.heap (mgcdI p xs ys)) := by
  intro w mean mg mb s a b us vs xs ys p tp X T h1 h2 h3 h4 h5 h6 h7
  intro Q E hQ
  refine wpAny_call ?_
  refine enter (binds := [(Str.ofString "a", .ref a), (Str.ofString "b", .ref b), (Str.ofString "p", .int p tp)]) (by assumption) (by assumption) (by k_is) (by k_is) (by decide) (BindsTo.of_eq rfl) (locs rfl) ?_ (by decide) rfl rfl rfl
  intro L h₁ F N
  k_fold
  unfold mgcdI at hQ
  generalize hG : gcdRun p 20 xs ys = G at hQ
  refine wpAny_execs_cons ?_
  refine whileR GS.led (fun c => [(Str.ofString "a", .ref c.a), (Str.ofString "b", .ref c.b)]) (fun _ => True) [] (fun c => IntsAre c.us c.xs ∧ IntsAre c.vs c.ys ∧ Loc s.heap c.led c.a c.us ∧ Loc s.heap c.led c.b c.vs ∧ Po p c.xs ∧ Po p c.ys ∧ c.ys.length ≤ c.k ∧ gcdRun p c.k c.xs c.ys = G) (fun c => c.ys.length)
    ⟨a, b, us, vs, [], xs, ys, 20⟩ (by assumption) (by assumption) trivial (by kst_all) ⟨h2, h4, .inl h1, .inl h3, h6, h7, h7.len, hG⟩ ?_
  rintro c0 u h tk - hP0 F' N' Rq hRq
  obtain ⟨a, b, us, vs, led, xs, ys, k⟩ := c0
  try dsimp only at hP0
  refine a5 hP0 (fun i1 i2 l1 l2 hP1 => ?_)
  clear hP0
  obtain ⟨q1, q2, hk, hG⟩ := hP1
  try dsimp only at F' N' i1 i2 l1 l2 q1 q2 hk hG
  have s1 := l1.isList F' N'
  have s2 := l2.isList F' N'
  have hlen := q2.len
  have hlen1 := q1.len
  (repeat' (first | (k_here; (with_reducible show wpAny _ _ (call (Value.ref 101) [Value.ref _, Value.int _ _]) _ _ _); k_dflt (refine' use_L (mmonic_ok ?x1 ?x2 ?x3 ?x4 ?x5 ?x6) ?k1 ?k2 ?_ rfl ?d1 ?d2; (case k1 => k_asm); (case k2 => k_asm); (case x1 => k_in); (case x2 => exact Top.keeps (by assumption) (Fr.keep (by k_asm))); (case x3 => is_list); (case x4 => l_ints); (case x5 => (first | assumption | omega)); (case x6 => (repeat' (first | assumption | exact Po.lit1 (by assumption) | exact Po.litx (by assumption) | refine Po.sub (by assumption) ?_ ?_ | refine Po.mul (by assumption) ?_ ?_ | refine Po.monic (by assumption) ?_ | refine Po.rest (by assumption) (Po.mul (by assumption) ?_ ?_) ?_ | refine Po.rest (by assumption) ?_ ?_ | refine Po.quot (by assumption) ?_ ?_ ?_ | refine Po.lo ?_))); (case d1 => exact Nat.le_of_ble_eq_true rfl); (case d2 => exact Nat.le_of_ble_eq_true rfl)); (intro l' vs' n' h' tk' F' N' ne' i'); (try k_sweep)) | (k_here; (with_reducible show wpAny _ _ (call (Value.ref 87) [Value.ref _, Value.ref _, Value.int _ _]) _ _ _); k_dflt (refine' use_L (mrest_ok ?x1 ?x2 ?x3 ?x4 ?x5 ?x6 ?x7 ?x8 ?x9 ?x10) ?k1 ?k2 ?_ rfl ?d1 ?d2; (case k1 => k_asm); (case k2 => k_asm); (case x1 => k_in); (case x2 => exact Top.keeps (by assumption) (Fr.keep (by k_asm))); (case x3 => is_list); (case x4 => l_ints); (case x5 => is_list); (case x6 => l_ints); (case x7 => (first | assumption | omega)); (case x8 => (repeat' (first | assumption | exact Po.lit1 (by assumption) | exact Po.litx (by assumption) | refine Po.sub (by assumption) ?_ ?_ | refine Po.mul (by assumption) ?_ ?_ | refine Po.monic (by assumption) ?_ | refine Po.rest (by assumption) (Po.mul (by assumption) ?_ ?_) ?_ | refine Po.rest (by assumption) ?_ ?_ | refine Po.quot (by assumption) ?_ ?_ ?_ | refine Po.lo ?_))); (case x9 => (repeat' (first | assumption | exact Po.lit1 (by assumption) | exact Po.litx (by assumption) | refine Po.sub (by assumption) ?_ ?_ | refine Po.mul (by assumption) ?_ ?_ | refine Po.monic (by assumption) ?_ | refine Po.rest (by assumption) (Po.mul (by assumption) ?_ ?_) ?_ | refine Po.rest (by assumption) ?_ ?_ | refine Po.quot (by assumption) ?_ ?_ ?_ | refine Po.lo ?_))); (case x10 => (first | assumption | omega)); (case d1 => exact Nat.le_of_ble_eq_true rfl); (case d2 => exact Nat.le_of_ble_eq_true rfl)); (intro l' vs' n' h' tk' F' N' ne' i'); (try k_sweep)) | walk1 | (dsimp only; walk1)))
  · refine hRq _ _ ?_
    dsimp only [KswPost]
    rename News _ _ _ _ => N9
    rename Fr _ _ _ _ => F9
    rename IntsAre _ (mrestI _ _ _) => i9
    have h0 : 0 < ys.length := by omega
    have hr := rest_lt h5 q1 q2 h0
    have hG' : gcdRun p (k - 1) ys (mrestI p xs ys) = G := by
      obtain ⟨k, rfl⟩ : ∃ j, k = j + 1 := ⟨k - 1, by omega⟩
      rw [gcdRun, if_neg (by omega)] at hG
      exact hG
    exact ksw_end (c' := ⟨b, _, vs, _, _ :: _ :: led, ys, mrestI p xs ys, k - 1⟩) (F := F9) (N := N9) (hn := fun q hq => hq) trivial (by kst_all) (by intro z h2 h3; simp only [List.contains_cons, List.contains_nil, Bool.or_false, Bool.or_eq_false_iff, beq_eq_false_iff_ne, ne_eq] at h3; (try simp only [List.forall_mem_cons, List.not_mem_nil, false_implies, implies_true, and_true, ne_eq] at h2); simp [h2, h3, mapB, kstB]) ⟨i2, i9, l2.more (fun q hq => .tail _ (.tail _ hq)), .here (.tail _ (.head _)), q2, Po.rest h5 q1 q2, by dsimp only; omega, hG'⟩ hr
  · rename News _ _ _ _ => N9
    rename Fr _ _ _ _ => F9
    have h0 : ys.length = 0 := by omega
    have e : G = xs := by
      rw [← hG]
      cases k with
      | zero => rfl
      | succ k => rw [gcdRun, if_pos h0]
    rw [e] at hQ
    exact hQ _ _ _ F9.keep (NewL.of N9 (.head _) (by assumption))
end
end
theorem top_off_F10 : True := by
  w_top off
  trivial

section
set_option maxRecDepth 100000
set_option linter.unusedVariables false
set_option linter.unusedSimpArgs false
open PySem PySem.W PySem.Calls PyProof.Rows PySem.Spec
theorem fill_F10 : PySem.Challenge.rw_nn0250_01 = PySem.Challenge.rw_nn0250_01 ∧ hd.heap_39 = hd.heap_39 := by
  k_fill
  exact ⟨rfl, rfl⟩

noncomputable def powRun (p : Int) (f : List Int) : Nat → Int → List Int → List Int → List Int
  | 0, _, F, _ => F
  | k + 1, n, F, S => if n ≤ 0 then F else
      powRun p f k (Int.fdiv n 2) (if Int.fmod n 2 = 1 then mrestI p (mmulI p F S) f else F) (if 0 < Int.fdiv n 2 then mrestI p (mmulI p S S) f else S)
noncomputable def mpowerI (p : Int) (a : List Int) (n : Int) (f : List Int) : List Int := powRun p f 5 n (mrestI p [1] f) (mrestI p a f)
theorem powRun_po {p : Int} {f : List Int} (hp : p = 2 ∨ p = 3 ∨ p = 5) (hf : Po p f) : ∀ {k : Nat} {n : Int} {a b : List Int}, Po p a → Po p b → Po p (powRun p f k n a b)
  | 0, _, a, _, h, _ => h
  | k + 1, n, a, b, h, g => by
    rw [powRun]; split
    · exact h
    · refine powRun_po hp hf ?_ ?_
      · split
        · exact Po.rest hp (Po.mul hp h g) hf
        · exact h
      · split
        · exact Po.rest hp (Po.mul hp g g) hf
        · exact g
theorem Po.pow {p : Int} {a f : List Int} {n : Int} (hp : p = 2 ∨ p = 3 ∨ p = 5) (h : Po p a) (g : Po p f) : Po p (mpowerI p a n f) := powRun_po hp g (Po.rest hp (Po.lit1 hp) g) (Po.rest hp h g)
theorem half_facts {n : Int} (h : 0 < n) : 0 ≤ Int.fdiv n 2 ∧ Int.fdiv n 2 ≤ n - 1 ∧ Int.fdiv n 2 * 2 + Int.fmod n 2 = n ∧ 0 ≤ Int.fmod n 2 ∧ Int.fmod n 2 < 2 := by
  rw [Int.fdiv_eq_ediv_of_nonneg _ (by decide), Int.fmod_eq_emod_of_nonneg _ (by decide)]; omega
structure PS where
  n : Int
  tn : Tok
  a : Addr
  b : Addr
  us : List Value
  vs : List Value
  i : Nat
  j : Nat
  led : List (Addr × Obj)
  xs : List Int
  ys : List Int
  k : Nat
section


set_option maxHeartbeats 4000000 in
theorem mpower_ok : ∀ {w : World} {mean : ExcName → Option Value} {mg mb : Str → Option Value} {s : Shared} {a b : Addr} {us vs : List Value} {xs ys : List Int} {p : Int} {tp : Tok} {n : Int} {tn : Tok}
    (_ : (hd.heap_39 w.params).In s.heap) (_ : Top hd.view_39 (looseW hd.view_39 []) mean mg mb s.heap)
    (_ : s.heap.IsList a us.toArray) (_ : IntsAre us xs) (_ : s.heap.IsList b vs.toArray) (_ : IntsAre vs ys) (_ : (p = 2 ∨ p = 3 ∨ p = 5)) (_ : Po p xs) (_ : Po p ys) (_ : 0 < ys.length) (_ : 0 ≤ n ∧ n ≤ 5), Fn w 4 108 s [.ref a, .int n tn, .ref b, .int p tp] (NewL s.heap (mpowerI p xs n ys)) := by
  intro w mean mg mb s a b us vs xs ys p tp n tn X T h1 h2 h3 h4 h5 h6 h7 h8 h9
  intro Q E hQ
  refine wpAny_call ?_
  refine enter (binds := [(Str.ofString "a", .ref a), (Str.ofString "n", .int n tn), (Str.ofString "f", .ref b), (Str.ofString "p", .int p tp)]) (by assumption) (by assumption) (by k_is) (by k_is) (by decide) (BindsTo.of_eq rfl) (locs rfl) ?_ (by decide) rfl rfl rfl
  intro L h₁ F N
  k_fold
  have hl2 := h7.len
  have hl1 := h6.len
  (repeat' (first | (k_here; (with_reducible show wpAny _ _ (call (Value.ref 73) [Value.ref _, Value.ref _, Value.int _ _]) _ _ _); k_dflt (refine' use_L (mmul_po ?x1 ?x2 ?x3 ?x4 ?x5 ?x6 ?x7 ?x8 ?x9) ?k1 ?k2 ?_ rfl ?d1 ?d2; (case k1 => k_asm); (case k2 => k_asm); (case x1 => k_in); (case x2 => exact Top.keeps (by assumption) (Fr.keep (by k_asm))); (case x3 => is_list); (case x4 => l_ints); (case x5 => is_list); (case x6 => l_ints); (case x7 => (first | assumption | omega)); (case x8 => (repeat' (first | assumption | exact Po.lit1 (by assumption) | exact Po.litx (by assumption) | refine Po.sub (by assumption) ?_ ?_ | refine Po.mul (by assumption) ?_ ?_ | refine Po.monic (by assumption) ?_ | refine Po.rest (by assumption) (Po.mul (by assumption) ?_ ?_) ?_ | refine Po.rest (by assumption) ?_ ?_ | refine Po.quot (by assumption) ?_ ?_ ?_ | refine Po.lo ?_))); (case x9 => (repeat' (first | assumption | exact Po.lit1 (by assumption) | exact Po.litx (by assumption) | refine Po.sub (by assumption) ?_ ?_ | refine Po.mul (by assumption) ?_ ?_ | refine Po.monic (by assumption) ?_ | refine Po.rest (by assumption) (Po.mul (by assumption) ?_ ?_) ?_ | refine Po.rest (by assumption) ?_ ?_ | refine Po.quot (by assumption) ?_ ?_ ?_ | refine Po.lo ?_))); (case d1 => exact Nat.le_of_ble_eq_true rfl); (case d2 => exact Nat.le_of_ble_eq_true rfl)); (intro l' vs' n' h' tk' F' N' ne' i'); (try k_sweep)) | (k_here; (with_reducible show wpAny _ _ (call (Value.ref 87) [Value.ref _, Value.ref _, Value.int _ _]) _ _ _); k_dflt (refine' use_L (mrest_ok ?x1 ?x2 ?x3 ?x4 ?x5 ?x6 ?x7 ?x8 ?x9 ?x10) ?k1 ?k2 ?_ rfl ?d1 ?d2; (case k1 => k_asm); (case k2 => k_asm); (case x1 => k_in); (case x2 => exact Top.keeps (by assumption) (Fr.keep (by k_asm))); (case x3 => is_list); (case x4 => l_ints); (case x5 => is_list); (case x6 => l_ints); (case x7 => (first | assumption | omega)); (case x8 => (repeat' (first | assumption | exact Po.lit1 (by assumption) | exact Po.litx (by assumption) | refine Po.sub (by assumption) ?_ ?_ | refine Po.mul (by assumption) ?_ ?_ | refine Po.monic (by assumption) ?_ | refine Po.rest (by assumption) (Po.mul (by assumption) ?_ ?_) ?_ | refine Po.rest (by assumption) ?_ ?_ | refine Po.quot (by assumption) ?_ ?_ ?_ | refine Po.lo ?_))); (case x9 => (repeat' (first | assumption | exact Po.lit1 (by assumption) | exact Po.litx (by assumption) | refine Po.sub (by assumption) ?_ ?_ | refine Po.mul (by assumption) ?_ ?_ | refine Po.monic (by assumption) ?_ | refine Po.rest (by assumption) (Po.mul (by assumption) ?_ ?_) ?_ | refine Po.rest (by assumption) ?_ ?_ | refine Po.quot (by assumption) ?_ ?_ ?_ | refine Po.lo ?_))); (case x10 => (first | assumption | omega)); (case d1 => exact Nat.le_of_ble_eq_true rfl); (case d2 => exact Nat.le_of_ble_eq_true rfl)); (intro l' vs' n' h' tk' F' N' ne' i'); (try k_sweep)) | walk1 | (dsimp only; walk1)))
  unfold Halt
  rename News _ _ _ _ => N0
  rename Fr _ _ _ _ => F0
  rename IntsAre _ (mrestI _ [1] _) => i1
  rename IntsAre _ (mrestI _ xs _) => i2
  unfold mpowerI at hQ
  have q1 : Po p (mrestI p [1] ys) := Po.rest h5 (Po.lit1 h5) h7
  have q2 : Po p (mrestI p xs ys) := Po.rest h5 h6 h7
  generalize hG : powRun p ys 5 n (mrestI p [1] ys) (mrestI p xs ys) = G at hQ
  generalize mrestI p [1] ys = X1 at i1 q1 hG
  generalize mrestI p xs ys = X2 at i2 q2 hG
  refine whileR PS.led (fun c => [(Str.ofString "n", .int c.n c.tn), (Str.ofString "found", .ref c.a), (Str.ofString "square", .ref c.b)]) (fun _ => True) []
    (fun c => IntsAre c.us c.xs ∧ IntsAre c.vs c.ys ∧ (c.a, listOf c.us.toArray c.i) ∈ c.led ∧ (c.b, listOf c.vs.toArray c.j) ∈ c.led ∧ Po p c.xs ∧ Po p c.ys ∧ (0 ≤ c.n ∧ c.n ≤ 5) ∧ c.n ≤ c.k ∧ powRun p ys c.k c.n c.xs c.ys = G) (fun c => c.n.toNat)
    ⟨n, tn, _, _, _, _, _, _, _, _, _, 5⟩ F0 N0 trivial (by kst_all) ⟨i1, i2, .tail _ (.tail _ (.head _)), .tail _ (.head _), q1, q2, h9, h9.2, hG⟩ ?_
  rintro c0 u h tk - hP0 F' N' Rq hRq
  obtain ⟨n, tn, a, b, us, vs, i, j, led, xs, zs, k⟩ := c0
  try dsimp only at hP0
  refine a5 hP0 (fun i1 i2 l1 l2 hP1 => ?_)
  clear hP0
  refine a5 hP1 (fun q1 q2 hn hk hG => ?_)
  clear hP1
  try dsimp only at F' N' i1 i2 l1 l2 q1 q2 hn hk hG
  have s1 := News.isList N' l1
  have s2 := News.isList N' l2
  have hlen := q2.len
  have hlen1 := q1.len
  (repeat' (first | (k_here; (with_reducible show wpAny _ _ (call (Value.ref 73) [Value.ref _, Value.ref _, Value.int _ _]) _ _ _); k_dflt (refine' use_L (mmul_po ?x1 ?x2 ?x3 ?x4 ?x5 ?x6 ?x7 ?x8 ?x9) ?k1 ?k2 ?_ rfl ?d1 ?d2; (case k1 => k_asm); (case k2 => k_asm); (case x1 => k_in); (case x2 => exact Top.keeps (by assumption) (Fr.keep (by k_asm))); (case x3 => is_list); (case x4 => l_ints); (case x5 => is_list); (case x6 => l_ints); (case x7 => (first | assumption | omega)); (case x8 => (repeat' (first | assumption | exact Po.lit1 (by assumption) | exact Po.litx (by assumption) | refine Po.sub (by assumption) ?_ ?_ | refine Po.mul (by assumption) ?_ ?_ | refine Po.monic (by assumption) ?_ | refine Po.rest (by assumption) (Po.mul (by assumption) ?_ ?_) ?_ | refine Po.rest (by assumption) ?_ ?_ | refine Po.quot (by assumption) ?_ ?_ ?_ | refine Po.lo ?_))); (case x9 => (repeat' (first | assumption | exact Po.lit1 (by assumption) | exact Po.litx (by assumption) | refine Po.sub (by assumption) ?_ ?_ | refine Po.mul (by assumption) ?_ ?_ | refine Po.monic (by assumption) ?_ | refine Po.rest (by assumption) (Po.mul (by assumption) ?_ ?_) ?_ | refine Po.rest (by assumption) ?_ ?_ | refine Po.quot (by assumption) ?_ ?_ ?_ | refine Po.lo ?_))); (case d1 => exact Nat.le_of_ble_eq_true rfl); (case d2 => exact Nat.le_of_ble_eq_true rfl)); (intro l' vs' n' h' tk' F' N' ne' i'); (try k_sweep)) | (k_here; (with_reducible show wpAny _ _ (call (Value.ref 87) [Value.ref _, Value.ref _, Value.int _ _]) _ _ _); k_dflt (refine' use_L (mrest_ok ?x1 ?x2 ?x3 ?x4 ?x5 ?x6 ?x7 ?x8 ?x9 ?x10) ?k1 ?k2 ?_ rfl ?d1 ?d2; (case k1 => k_asm); (case k2 => k_asm); (case x1 => k_in); (case x2 => exact Top.keeps (by assumption) (Fr.keep (by k_asm))); (case x3 => is_list); (case x4 => l_ints); (case x5 => is_list); (case x6 => l_ints); (case x7 => (first | assumption | omega)); (case x8 => (repeat' (first | assumption | exact Po.lit1 (by assumption) | exact Po.litx (by assumption) | refine Po.sub (by assumption) ?_ ?_ | refine Po.mul (by assumption) ?_ ?_ | refine Po.monic (by assumption) ?_ | refine Po.rest (by assumption) (Po.mul (by assumption) ?_ ?_) ?_ | refine Po.rest (by assumption) ?_ ?_ | refine Po.quot (by assumption) ?_ ?_ ?_ | refine Po.lo ?_))); (case x9 => (repeat' (first | assumption | exact Po.lit1 (by assumption) | exact Po.litx (by assumption) | refine Po.sub (by assumption) ?_ ?_ | refine Po.mul (by assumption) ?_ ?_ | refine Po.monic (by assumption) ?_ | refine Po.rest (by assumption) (Po.mul (by assumption) ?_ ?_) ?_ | refine Po.rest (by assumption) ?_ ?_ | refine Po.quot (by assumption) ?_ ?_ ?_ | refine Po.lo ?_))); (case x10 => (first | assumption | omega)); (case d1 => exact Nat.le_of_ble_eq_true rfl); (case d2 => exact Nat.le_of_ble_eq_true rfl)); (intro l' vs' n' h' tk' F' N' ne' i'); (try k_sweep)) | walk1 | (dsimp only; walk1)))
  · refine hRq _ _ ?_
    dsimp only [KswPost]
    rename Fr _ _ _ _ => F9
    rename News _ _ _ _ => N9
    rename IntsAre _ (mrestI p (mmulI p xs zs) ys) => j1
    rename IntsAre _ (mrestI p (mmulI p zs zs) ys) => j2
    have hn' := half_facts (n := n) (by omega)
    have hG' : powRun p ys (k - 1) (Int.fdiv n 2) (mrestI p (mmulI p xs zs) ys) (mrestI p (mmulI p zs zs) ys) = G := by
      obtain ⟨k, rfl⟩ : ∃ j, k = j + 1 := ⟨k - 1, by omega⟩
      rw [powRun, if_neg (by omega), if_pos (by first | assumption | omega), if_pos (by first | assumption | omega)] at hG
      exact hG
    refine' ksw_end (c' := ⟨Int.fdiv n 2, _, _, _, _, _, _, _, _, mrestI p (mmulI p xs zs) ys, mrestI p (mmulI p zs zs) ys, k - 1⟩) (F := F9) (N := N9) (hn := fun q hq => hq) trivial ?hk0 ?hr0 ⟨j1, j2, ?m10, ?m20, Po.rest h5 (Po.mul h5 q1 q2) h7, Po.rest h5 (Po.mul h5 q2 q2) h7, ⟨hn'.1, by dsimp only; omega⟩, by dsimp only; omega, hG'⟩ ?hm0
    (case m10 => (repeat (first | assumption | exact List.Mem.head _ | refine List.mem_cons_of_mem _ ?_)))
    (case m20 => (repeat (first | assumption | exact List.Mem.head _ | refine List.mem_cons_of_mem _ ?_)))
    (case hk0 => kst_all)
    (case hr0 => exact (by intro z h2 h3; simp only [List.contains_cons, List.contains_nil, Bool.or_false, Bool.or_eq_false_iff, beq_eq_false_iff_ne, ne_eq] at h3; (try simp only [List.forall_mem_cons, List.not_mem_nil, false_implies, implies_true, and_true, ne_eq] at h2); simp [h2, h3, mapB, kstB]))
    (case hm0 => dsimp only; omega)
  · refine hRq _ _ ?_
    dsimp only [KswPost]
    rename Fr _ _ _ _ => F9
    rename News _ _ _ _ => N9
    rename IntsAre _ (mrestI p (mmulI p xs zs) ys) => j1
    have hn' := half_facts (n := n) (by omega)
    have hG' : powRun p ys (k - 1) (Int.fdiv n 2) (mrestI p (mmulI p xs zs) ys) (zs) = G := by
      obtain ⟨k, rfl⟩ : ∃ j, k = j + 1 := ⟨k - 1, by omega⟩
      rw [powRun, if_neg (by omega), if_pos (by first | assumption | omega), if_neg (by first | assumption | omega)] at hG
      exact hG
    refine' ksw_end (c' := ⟨Int.fdiv n 2, _, _, _, _, _, _, _, _, mrestI p (mmulI p xs zs) ys, zs, k - 1⟩) (F := F9) (N := N9) (hn := fun q hq => hq) trivial ?hk1 ?hr1 ⟨j1, i2, ?m11, ?m21, Po.rest h5 (Po.mul h5 q1 q2) h7, q2, ⟨hn'.1, by dsimp only; omega⟩, by dsimp only; omega, hG'⟩ ?hm1
    (case m11 => (repeat (first | assumption | exact List.Mem.head _ | refine List.mem_cons_of_mem _ ?_)))
    (case m21 => (repeat (first | assumption | exact List.Mem.head _ | refine List.mem_cons_of_mem _ ?_)))
    (case hk1 => kst_all)
    (case hr1 => exact (by intro z h2 h3; simp only [List.contains_cons, List.contains_nil, Bool.or_false, Bool.or_eq_false_iff, beq_eq_false_iff_ne, ne_eq] at h3; (try simp only [List.forall_mem_cons, List.not_mem_nil, false_implies, implies_true, and_true, ne_eq] at h2); simp [h2, h3, mapB, kstB]))
    (case hm1 => dsimp only; omega)
  · refine hRq _ _ ?_
    dsimp only [KswPost]
    rename Fr _ _ _ _ => F9
    rename News _ _ _ _ => N9
    rename IntsAre _ (mrestI p (mmulI p zs zs) ys) => j2
    have hn' := half_facts (n := n) (by omega)
    have hG' : powRun p ys (k - 1) (Int.fdiv n 2) (xs) (mrestI p (mmulI p zs zs) ys) = G := by
      obtain ⟨k, rfl⟩ : ∃ j, k = j + 1 := ⟨k - 1, by omega⟩
      rw [powRun, if_neg (by omega), if_neg (by first | assumption | omega), if_pos (by first | assumption | omega)] at hG
      exact hG
    refine' ksw_end (c' := ⟨Int.fdiv n 2, _, _, _, _, _, _, _, _, xs, mrestI p (mmulI p zs zs) ys, k - 1⟩) (F := F9) (N := N9) (hn := fun q hq => hq) trivial ?hk2 ?hr2 ⟨i1, j2, ?m12, ?m22, q1, Po.rest h5 (Po.mul h5 q2 q2) h7, ⟨hn'.1, by dsimp only; omega⟩, by dsimp only; omega, hG'⟩ ?hm2
    (case m12 => (repeat (first | assumption | exact List.Mem.head _ | refine List.mem_cons_of_mem _ ?_)))
    (case m22 => (repeat (first | assumption | exact List.Mem.head _ | refine List.mem_cons_of_mem _ ?_)))
    (case hk2 => kst_all)
    (case hr2 => exact (by intro z h2 h3; simp only [List.contains_cons, List.contains_nil, Bool.or_false, Bool.or_eq_false_iff, beq_eq_false_iff_ne, ne_eq] at h3; (try simp only [List.forall_mem_cons, List.not_mem_nil, false_implies, implies_true, and_true, ne_eq] at h2); simp [h2, h3, mapB, kstB]))
    (case hm2 => dsimp only; omega)
  · rename News _ _ _ _ => N9
    rename Fr _ _ _ _ => F9
    have e : G = xs := by
      rw [← hG]
      cases k with
      | zero => rfl
      | succ k => rw [powRun, if_pos (by omega)]
    rw [e] at hQ
    exact hQ _ _ _ F9.keep (NewL.of N9 l1 i1)
end
end
theorem top_off_F11 : True := by
  w_top off
  trivial

section
set_option maxRecDepth 100000
set_option linter.unusedVariables false
set_option linter.unusedSimpArgs false
open PySem PySem.W PySem.Calls PyProof.Rows PySem.Spec
theorem fill_F11 : PySem.Challenge.rw_nn0250_01 = PySem.Challenge.rw_nn0250_01 ∧ hd.heap_39 = hd.heap_39 := by
  k_fill
  exact ⟨rfl, rfl⟩

noncomputable def ddRun (p : Int) : Nat → Int → List Int → List Int → Option (List (List Int × Int))
  | 0, _, _, _ => none
  | k + 1, d, P, f => if 2 * (d + 1) ≤ (f.length : Int) - 1 then
      let P' := mpowerI p P p f
      let c := mgcdI p (msubI p P' [0, 1]) f
      if 0 < (c.length : Int) - 1 then
        let f' := mquotientI p f c
        if f'.length = 0 then none else (ddRun p k (d + 1) (mrestI p P' f') f').map ((c, d + 1) :: ·)
      else ddRun p k (d + 1) P' f
    else some (if 0 < (f.length : Int) - 1 then [(f, (f.length : Int) - 1)] else [])
noncomputable def ddI (p : Int) (f : List Int) : Option (List (List Int × Int)) := ddRun p 20 0 [0, 1] f
structure DS where
  fa : Addr
  fs : List Value
  fn : Nat
  r0 : List (List Int × Int)
  d : Int
  td : Tok
  a : Addr
  b : Addr
  us : List Value
  vs : List Value
  led : List (Addr × Obj)
  xs : List Int
  ys : List Int
  k : Nat
noncomputable abbrev DS.all (c : DS) : List (Addr × Obj) := (c.fa, listOf c.fs.toArray c.fn) :: c.led
section


set_option maxHeartbeats 4000000 in
theorem dd_ok : ∀ {w : World} {mean : ExcName → Option Value} {mg mb : Str → Option Value} {s : Shared} {b : Addr} {vs : List Value} {ys : List Int} {p : Int} {tp : Tok} {r : List (List Int × Int)} {hx : Heap}
    (_ : (hd.heap_39 w.params).In s.heap) (_ : Top hd.view_39 (looseW hd.view_39 []) mean mg mb s.heap)
    (_ : s.heap.IsList b vs.toArray) (_ : IntsAre vs ys) (_ : (p = 2 ∨ p = 3 ∨ p = 5)) (_ : Po p ys) (_ : 0 < ys.length) (_ : ddI p ys = some r) (_ : hx.StaysIn s.heap) (_ : hx.IsList b vs.toArray), Fn w 5 122 s [.ref b, .int p tp] (NewDD hx s.heap r) := by
  intro w mean mg mb s b vs ys p tp r hx X T h1 h2 h3 h4 h5 h6 h7 h8
  intro Q E hQ
  refine wpAny_call ?_
  refine enter (binds := [(Str.ofString "f", .ref b), (Str.ofString "p", .int p tp)]) (by assumption) (by assumption) (by k_is) (by k_is) (by decide) (BindsTo.of_eq rfl) (locs rfl) ?_ (by decide) rfl rfl rfl
  intro L h₁ F N
  k_fold
  have hl2 := h4.len
  unfold ddI at h6
  (repeat' (first | (k_here; (with_reducible show wpAny _ _ (call (Value.ref 115) [Value.ref _, Value.ref _, Value.int _ _]) _ _ _); k_dflt (refine' use_L (mgcd_ok ?x1 ?x2 ?x3 ?x4 ?x5 ?x6 ?x7 ?x8 ?x9) ?k1 ?k2 ?_ rfl ?d1 ?d2; (case k1 => k_asm); (case k2 => k_asm); (case x1 => k_in); (case x2 => exact Top.keeps (by assumption) (Fr.keep (by k_asm))); (case x3 => is_list); (case x4 => l_ints); (case x5 => is_list); (case x6 => l_ints); (case x7 => (first | assumption | omega)); (case x8 => (repeat' (first | assumption | exact Po.lit1 (by assumption) | exact Po.litx (by assumption) | refine Po.sub (by assumption) ?_ ?_ | refine Po.mul (by assumption) ?_ ?_ | refine Po.monic (by assumption) ?_ | refine Po.rest (by assumption) (Po.mul (by assumption) ?_ ?_) ?_ | refine Po.rest (by assumption) ?_ ?_ | refine Po.gcd (by assumption) ?_ ?_ | refine Po.pow (by assumption) ?_ ?_ | refine Po.quot (by assumption) ?_ ?_ ?_ | refine Po.lo ?_))); (case x9 => (repeat' (first | assumption | exact Po.lit1 (by assumption) | exact Po.litx (by assumption) | refine Po.sub (by assumption) ?_ ?_ | refine Po.mul (by assumption) ?_ ?_ | refine Po.monic (by assumption) ?_ | refine Po.rest (by assumption) (Po.mul (by assumption) ?_ ?_) ?_ | refine Po.rest (by assumption) ?_ ?_ | refine Po.gcd (by assumption) ?_ ?_ | refine Po.pow (by assumption) ?_ ?_ | refine Po.quot (by assumption) ?_ ?_ ?_ | refine Po.lo ?_))); (case d1 => exact Nat.le_of_ble_eq_true rfl); (case d2 => exact Nat.le_of_ble_eq_true rfl)); (intro l' vs' n' h' tk' F' N' ne' i'); (try k_sweep)) | (k_here; (with_reducible show wpAny _ _ (call (Value.ref 108) [Value.ref _, Value.int _ _, Value.ref _, Value.int _ _]) _ _ _); k_dflt (refine' use_L (mpower_ok ?x1 ?x2 ?x3 ?x4 ?x5 ?x6 ?x7 ?x8 ?x9 ?x10 ?x11) ?k1 ?k2 ?_ rfl ?d1 ?d2; (case k1 => k_asm); (case k2 => k_asm); (case x1 => k_in); (case x2 => exact Top.keeps (by assumption) (Fr.keep (by k_asm))); (case x3 => is_list); (case x4 => l_ints); (case x5 => is_list); (case x6 => l_ints); (case x7 => (first | assumption | omega)); (case x8 => (repeat' (first | assumption | exact Po.lit1 (by assumption) | exact Po.litx (by assumption) | refine Po.sub (by assumption) ?_ ?_ | refine Po.mul (by assumption) ?_ ?_ | refine Po.monic (by assumption) ?_ | refine Po.rest (by assumption) (Po.mul (by assumption) ?_ ?_) ?_ | refine Po.rest (by assumption) ?_ ?_ | refine Po.gcd (by assumption) ?_ ?_ | refine Po.pow (by assumption) ?_ ?_ | refine Po.quot (by assumption) ?_ ?_ ?_ | refine Po.lo ?_))); (case x9 => (repeat' (first | assumption | exact Po.lit1 (by assumption) | exact Po.litx (by assumption) | refine Po.sub (by assumption) ?_ ?_ | refine Po.mul (by assumption) ?_ ?_ | refine Po.monic (by assumption) ?_ | refine Po.rest (by assumption) (Po.mul (by assumption) ?_ ?_) ?_ | refine Po.rest (by assumption) ?_ ?_ | refine Po.gcd (by assumption) ?_ ?_ | refine Po.pow (by assumption) ?_ ?_ | refine Po.quot (by assumption) ?_ ?_ ?_ | refine Po.lo ?_))); (case x10 => (first | assumption | omega)); (case x11 => (first | assumption | omega)); (case d1 => exact Nat.le_of_ble_eq_true rfl); (case d2 => exact Nat.le_of_ble_eq_true rfl)); (intro l' vs' n' h' tk' F' N' ne' i'); (try k_sweep)) | (k_here; (with_reducible show wpAny _ _ (call (Value.ref 94) [Value.ref _, Value.ref _, Value.int _ _]) _ _ _); k_dflt (refine' use_L (mquotient_ok ?x1 ?x2 ?x3 ?x4 ?x5 ?x6 ?x7 ?x8 ?x9 ?x10) ?k1 ?k2 ?_ rfl ?d1 ?d2; (case k1 => k_asm); (case k2 => k_asm); (case x1 => k_in); (case x2 => exact Top.keeps (by assumption) (Fr.keep (by k_asm))); (case x3 => is_list); (case x4 => l_ints); (case x5 => is_list); (case x6 => l_ints); (case x7 => (first | assumption | omega)); (case x8 => (repeat' (first | assumption | exact Po.lit1 (by assumption) | exact Po.litx (by assumption) | refine Po.sub (by assumption) ?_ ?_ | refine Po.mul (by assumption) ?_ ?_ | refine Po.monic (by assumption) ?_ | refine Po.rest (by assumption) (Po.mul (by assumption) ?_ ?_) ?_ | refine Po.rest (by assumption) ?_ ?_ | refine Po.gcd (by assumption) ?_ ?_ | refine Po.pow (by assumption) ?_ ?_ | refine Po.quot (by assumption) ?_ ?_ ?_ | refine Po.lo ?_))); (case x9 => (repeat' (first | assumption | exact Po.lit1 (by assumption) | exact Po.litx (by assumption) | refine Po.sub (by assumption) ?_ ?_ | refine Po.mul (by assumption) ?_ ?_ | refine Po.monic (by assumption) ?_ | refine Po.rest (by assumption) (Po.mul (by assumption) ?_ ?_) ?_ | refine Po.rest (by assumption) ?_ ?_ | refine Po.gcd (by assumption) ?_ ?_ | refine Po.pow (by assumption) ?_ ?_ | refine Po.quot (by assumption) ?_ ?_ ?_ | refine Po.lo ?_))); (case x10 => (first | assumption | omega)); (case d1 => exact Nat.le_of_ble_eq_true rfl); (case d2 => exact Nat.le_of_ble_eq_true rfl)); (intro l' vs' n' h' tk' F' N' ne' i'); (try k_sweep)) | (k_here; (with_reducible show wpAny _ _ (call (Value.ref 87) [Value.ref _, Value.ref _, Value.int _ _]) _ _ _); k_dflt (refine' use_L (mrest_ok ?x1 ?x2 ?x3 ?x4 ?x5 ?x6 ?x7 ?x8 ?x9 ?x10) ?k1 ?k2 ?_ rfl ?d1 ?d2; (case k1 => k_asm); (case k2 => k_asm); (case x1 => k_in); (case x2 => exact Top.keeps (by assumption) (Fr.keep (by k_asm))); (case x3 => is_list); (case x4 => l_ints); (case x5 => is_list); (case x6 => l_ints); (case x7 => (first | assumption | omega)); (case x8 => (repeat' (first | assumption | exact Po.lit1 (by assumption) | exact Po.litx (by assumption) | refine Po.sub (by assumption) ?_ ?_ | refine Po.mul (by assumption) ?_ ?_ | refine Po.monic (by assumption) ?_ | refine Po.rest (by assumption) (Po.mul (by assumption) ?_ ?_) ?_ | refine Po.rest (by assumption) ?_ ?_ | refine Po.gcd (by assumption) ?_ ?_ | refine Po.pow (by assumption) ?_ ?_ | refine Po.quot (by assumption) ?_ ?_ ?_ | refine Po.lo ?_))); (case x9 => (repeat' (first | assumption | exact Po.lit1 (by assumption) | exact Po.litx (by assumption) | refine Po.sub (by assumption) ?_ ?_ | refine Po.mul (by assumption) ?_ ?_ | refine Po.monic (by assumption) ?_ | refine Po.rest (by assumption) (Po.mul (by assumption) ?_ ?_) ?_ | refine Po.rest (by assumption) ?_ ?_ | refine Po.gcd (by assumption) ?_ ?_ | refine Po.pow (by assumption) ?_ ?_ | refine Po.quot (by assumption) ?_ ?_ ?_ | refine Po.lo ?_))); (case x10 => (first | assumption | omega)); (case d1 => exact Nat.le_of_ble_eq_true rfl); (case d2 => exact Nat.le_of_ble_eq_true rfl)); (intro l' vs' n' h' tk' F' N' ne' i'); (try k_sweep)) | (k_here; (with_reducible show wpAny _ _ (call (Value.ref 61) [Value.ref _, Value.ref _, Value.int _ _]) _ _ _); k_dflt (refine' use_L (msub_po ?x1 ?x2 ?x3 ?x4 ?x5 ?x6 ?x7 ?x8 ?x9) ?k1 ?k2 ?_ rfl ?d1 ?d2; (case k1 => k_asm); (case k2 => k_asm); (case x1 => k_in); (case x2 => exact Top.keeps (by assumption) (Fr.keep (by k_asm))); (case x3 => is_list); (case x4 => l_ints); (case x5 => is_list); (case x6 => l_ints); (case x7 => (first | assumption | omega)); (case x8 => (repeat' (first | assumption | exact Po.lit1 (by assumption) | exact Po.litx (by assumption) | refine Po.sub (by assumption) ?_ ?_ | refine Po.mul (by assumption) ?_ ?_ | refine Po.monic (by assumption) ?_ | refine Po.rest (by assumption) (Po.mul (by assumption) ?_ ?_) ?_ | refine Po.rest (by assumption) ?_ ?_ | refine Po.gcd (by assumption) ?_ ?_ | refine Po.pow (by assumption) ?_ ?_ | refine Po.quot (by assumption) ?_ ?_ ?_ | refine Po.lo ?_))); (case x9 => (repeat' (first | assumption | exact Po.lit1 (by assumption) | exact Po.litx (by assumption) | refine Po.sub (by assumption) ?_ ?_ | refine Po.mul (by assumption) ?_ ?_ | refine Po.monic (by assumption) ?_ | refine Po.rest (by assumption) (Po.mul (by assumption) ?_ ?_) ?_ | refine Po.rest (by assumption) ?_ ?_ | refine Po.gcd (by assumption) ?_ ?_ | refine Po.pow (by assumption) ?_ ?_ | refine Po.quot (by assumption) ?_ ?_ ?_ | refine Po.lo ?_))); (case d1 => exact Nat.le_of_ble_eq_true rfl); (case d2 => exact Nat.le_of_ble_eq_true rfl)); (intro l' vs' n' h' tk' F' N' ne' i'); (try k_sweep)) | (k_here; (with_reducible show wpAny _ _ (call (Value.ref 42) [Value.ref _]) _ _ _); k_dflt (refine' use_I (mdegree_ok ?x1 ?x2 ?x3 ?x4 ?x5) ?k1 ?k2 ?_ rfl ?d1 ?d2; (case k1 => k_asm); (case k2 => k_asm); (case x1 => k_in); (case x2 => exact Top.keeps (by assumption) (Fr.keep (by k_asm))); (case x3 => is_list); (case x4 => l_ints); (case x5 => (first | assumption | omega | (refine Pn.lt (n := 20) ?_ (by decide); (repeat' (first | assumption | exact Po.lit1 (by assumption) | exact Po.litx (by assumption) | refine Po.sub (by assumption) ?_ ?_ | refine Po.mul (by assumption) ?_ ?_ | refine Po.monic (by assumption) ?_ | refine Po.rest (by assumption) (Po.mul (by assumption) ?_ ?_) ?_ | refine Po.rest (by assumption) ?_ ?_ | refine Po.gcd (by assumption) ?_ ?_ | refine Po.pow (by assumption) ?_ ?_ | refine Po.quot (by assumption) ?_ ?_ ?_ | refine Po.lo ?_))))); (case d1 => exact Nat.le_of_ble_eq_true rfl); (case d2 => exact Nat.le_of_ble_eq_true rfl)); (intro t' h' tk' F' N'); (try k_sweep)) | walk1 | (dsimp only; walk1)))
  unfold Halt
  rename News _ _ _ _ => N0
  rename Fr _ _ _ _ => F0
  have q0 : Po p [0, 1] := Po.litx h3
  have N1 : News s.heap L _ [(_, listOf (List.toArray []) 0), (_, listOf (List.toArray [Value.int 0 _, Value.int 1 _]) 0)] := News.sub N0 (List.forall_mem_cons.mpr ⟨.tail _ (.tail _ (.head _)), List.forall_mem_cons.mpr ⟨.tail _ (.head _), List.forall_mem_nil _⟩⟩)
  refine whileR DS.all (fun c => [(Str.ofString "found", .ref c.fa), (Str.ofString "degree", .int c.d c.td), (Str.ofString "power", .ref c.a), (Str.ofString "f", .ref c.b)]) (fun _ => True) [Str.ofString "common"]
    (fun c => IntsAre c.us c.xs ∧ IntsAre c.vs c.ys ∧ Loc hx c.led c.a c.us ∧ Loc hx c.led c.b c.vs ∧ Po p c.xs ∧ Po p c.ys ∧ 0 < c.ys.length ∧ (0 ≤ c.d ∧ c.d + c.k ≤ 20) ∧ (c.fs.length : Int) ≤ c.d ∧ PairsIn hx c.led c.fs c.r0 ∧ (∀ q ∈ c.led, q.1 ≠ c.fa) ∧ ∃ r', ddRun p c.k c.d c.xs c.ys = some r' ∧ r = c.r0 ++ r') (fun c => c.k)
    ⟨_, [], 0, [], 0, _, _, _, [_, _], vs, [_], [0, 1], ys, 20⟩ F0 N1 trivial (by kst_all) ⟨.cons _ _ (.cons _ _ .nil), h2, .here (.head _), .inl h8, q0, h4, h5, ⟨Int.le_refl _, Int.le_refl _⟩, Int.le_refl _, .nil, ?ne, r, h6, rfl⟩ ?_
  · intro q hq
    rw [List.mem_singleton.mp hq]
    exact Nat.ne_of_gt (by assumption)
  rintro c0 u h tk - hP0 F' N' Rq hRq
  obtain ⟨fa, fs, fn, r0, d, td, a, b, us, vs, led, xs, ys, k⟩ := c0
  try dsimp only at hP0
  refine a5 hP0 (fun i1 i2 l1 l2 hP1 => ?_)
  clear hP0
  refine a5 hP1 (fun q1 q2 hy hd hP5 => ?_)
  clear hP1
  obtain ⟨hfs, hpr, hne, hx11⟩ := hP5
  obtain ⟨r', hG, hr⟩ := hx11
  try dsimp only at F' N' i1 i2 l1 l2 q1 q2 hy hd hfs hpr hne hG hr
  change News s.heap L h ((fa, listOf fs.toArray fn) :: led) at N'
  have hlen := q2.len
  have hlen1 := q1.len
  have hz : fs.toArray.size ≤ sizeLine := by
    rw [PySem.sizeLine_eq, List.size_toArray]; omega
  cases k with
  | zero => cases hG
  | succ k =>
  rw [ddRun] at hG
  by_cases hc1 : 2 * (d + 1) ≤ (ys.length : Int) - 1
  · rw [if_pos hc1] at hG
    dsimp only at hG
    by_cases hc2 : 0 < ((mgcdI p (msubI p (mpowerI p xs p ys) [0, 1]) ys).length : Int) - 1
    · rw [if_pos hc2] at hG
      by_cases hc3 : (mquotientI p ys (mgcdI p (msubI p (mpowerI p xs p ys) [0, 1]) ys)).length = 0
      · rw [if_pos hc3] at hG; cases hG
      rw [if_neg hc3] at hG
      have qP : Po p (mpowerI p xs p ys) := Po.pow h3 q1 q2
      have qc := Po.gcd h3 (Po.sub h3 qP q0) q2
      have hlc := qc.len
      have qf := Po.quot h3 q2 qc (by omega)
      have hlf := qf.len
      obtain ⟨r2, hG2, rfl⟩ := Option.map_eq_some_iff.mp hG
      (repeat' (first | (k_here; (with_reducible show wpAny _ _ (call (Value.ref 115) [Value.ref _, Value.ref _, Value.int _ _]) _ _ _); k_dflt (refine' use_L (mgcd_ok ?x1 ?x2 ?x3 ?x4 ?x5 ?x6 ?x7 ?x8 ?x9) ?k1 ?k2 ?_ rfl ?d1 ?d2; (case k1 => k_asm); (case k2 => k_asm); (case x1 => k_in); (case x2 => exact Top.keeps (by assumption) (Fr.keep (by k_asm))); (case x3 => is_list); (case x4 => l_ints); (case x5 => is_list); (case x6 => l_ints); (case x7 => (first | assumption | omega)); (case x8 => (repeat' (first | assumption | exact Po.lit1 (by assumption) | exact Po.litx (by assumption) | refine Po.sub (by assumption) ?_ ?_ | refine Po.mul (by assumption) ?_ ?_ | refine Po.monic (by assumption) ?_ | refine Po.rest (by assumption) (Po.mul (by assumption) ?_ ?_) ?_ | refine Po.rest (by assumption) ?_ ?_ | refine Po.gcd (by assumption) ?_ ?_ | refine Po.pow (by assumption) ?_ ?_ | refine Po.quot (by assumption) ?_ ?_ ?_ | refine Po.lo ?_))); (case x9 => (repeat' (first | assumption | exact Po.lit1 (by assumption) | exact Po.litx (by assumption) | refine Po.sub (by assumption) ?_ ?_ | refine Po.mul (by assumption) ?_ ?_ | refine Po.monic (by assumption) ?_ | refine Po.rest (by assumption) (Po.mul (by assumption) ?_ ?_) ?_ | refine Po.rest (by assumption) ?_ ?_ | refine Po.gcd (by assumption) ?_ ?_ | refine Po.pow (by assumption) ?_ ?_ | refine Po.quot (by assumption) ?_ ?_ ?_ | refine Po.lo ?_))); (case d1 => exact Nat.le_of_ble_eq_true rfl); (case d2 => exact Nat.le_of_ble_eq_true rfl)); (intro l' vs' n' h' tk' F' N' ne' i'); (try k_sweep)) | (k_here; (with_reducible show wpAny _ _ (call (Value.ref 108) [Value.ref _, Value.int _ _, Value.ref _, Value.int _ _]) _ _ _); k_dflt (refine' use_L (mpower_ok ?x1 ?x2 ?x3 ?x4 ?x5 ?x6 ?x7 ?x8 ?x9 ?x10 ?x11) ?k1 ?k2 ?_ rfl ?d1 ?d2; (case k1 => k_asm); (case k2 => k_asm); (case x1 => k_in); (case x2 => exact Top.keeps (by assumption) (Fr.keep (by k_asm))); (case x3 => is_list); (case x4 => l_ints); (case x5 => is_list); (case x6 => l_ints); (case x7 => (first | assumption | omega)); (case x8 => (repeat' (first | assumption | exact Po.lit1 (by assumption) | exact Po.litx (by assumption) | refine Po.sub (by assumption) ?_ ?_ | refine Po.mul (by assumption) ?_ ?_ | refine Po.monic (by assumption) ?_ | refine Po.rest (by assumption) (Po.mul (by assumption) ?_ ?_) ?_ | refine Po.rest (by assumption) ?_ ?_ | refine Po.gcd (by assumption) ?_ ?_ | refine Po.pow (by assumption) ?_ ?_ | refine Po.quot (by assumption) ?_ ?_ ?_ | refine Po.lo ?_))); (case x9 => (repeat' (first | assumption | exact Po.lit1 (by assumption) | exact Po.litx (by assumption) | refine Po.sub (by assumption) ?_ ?_ | refine Po.mul (by assumption) ?_ ?_ | refine Po.monic (by assumption) ?_ | refine Po.rest (by assumption) (Po.mul (by assumption) ?_ ?_) ?_ | refine Po.rest (by assumption) ?_ ?_ | refine Po.gcd (by assumption) ?_ ?_ | refine Po.pow (by assumption) ?_ ?_ | refine Po.quot (by assumption) ?_ ?_ ?_ | refine Po.lo ?_))); (case x10 => (first | assumption | omega)); (case x11 => (first | assumption | omega)); (case d1 => exact Nat.le_of_ble_eq_true rfl); (case d2 => exact Nat.le_of_ble_eq_true rfl)); (intro l' vs' n' h' tk' F' N' ne' i'); (try k_sweep)) | (k_here; (with_reducible show wpAny _ _ (call (Value.ref 94) [Value.ref _, Value.ref _, Value.int _ _]) _ _ _); k_dflt (refine' use_L (mquotient_ok ?x1 ?x2 ?x3 ?x4 ?x5 ?x6 ?x7 ?x8 ?x9 ?x10) ?k1 ?k2 ?_ rfl ?d1 ?d2; (case k1 => k_asm); (case k2 => k_asm); (case x1 => k_in); (case x2 => exact Top.keeps (by assumption) (Fr.keep (by k_asm))); (case x3 => is_list); (case x4 => l_ints); (case x5 => is_list); (case x6 => l_ints); (case x7 => (first | assumption | omega)); (case x8 => (repeat' (first | assumption | exact Po.lit1 (by assumption) | exact Po.litx (by assumption) | refine Po.sub (by assumption) ?_ ?_ | refine Po.mul (by assumption) ?_ ?_ | refine Po.monic (by assumption) ?_ | refine Po.rest (by assumption) (Po.mul (by assumption) ?_ ?_) ?_ | refine Po.rest (by assumption) ?_ ?_ | refine Po.gcd (by assumption) ?_ ?_ | refine Po.pow (by assumption) ?_ ?_ | refine Po.quot (by assumption) ?_ ?_ ?_ | refine Po.lo ?_))); (case x9 => (repeat' (first | assumption | exact Po.lit1 (by assumption) | exact Po.litx (by assumption) | refine Po.sub (by assumption) ?_ ?_ | refine Po.mul (by assumption) ?_ ?_ | refine Po.monic (by assumption) ?_ | refine Po.rest (by assumption) (Po.mul (by assumption) ?_ ?_) ?_ | refine Po.rest (by assumption) ?_ ?_ | refine Po.gcd (by assumption) ?_ ?_ | refine Po.pow (by assumption) ?_ ?_ | refine Po.quot (by assumption) ?_ ?_ ?_ | refine Po.lo ?_))); (case x10 => (first | assumption | omega)); (case d1 => exact Nat.le_of_ble_eq_true rfl); (case d2 => exact Nat.le_of_ble_eq_true rfl)); (intro l' vs' n' h' tk' F' N' ne' i'); (try k_sweep)) | (k_here; (with_reducible show wpAny _ _ (call (Value.ref 87) [Value.ref _, Value.ref _, Value.int _ _]) _ _ _); k_dflt (refine' use_L (mrest_ok ?x1 ?x2 ?x3 ?x4 ?x5 ?x6 ?x7 ?x8 ?x9 ?x10) ?k1 ?k2 ?_ rfl ?d1 ?d2; (case k1 => k_asm); (case k2 => k_asm); (case x1 => k_in); (case x2 => exact Top.keeps (by assumption) (Fr.keep (by k_asm))); (case x3 => is_list); (case x4 => l_ints); (case x5 => is_list); (case x6 => l_ints); (case x7 => (first | assumption | omega)); (case x8 => (repeat' (first | assumption | exact Po.lit1 (by assumption) | exact Po.litx (by assumption) | refine Po.sub (by assumption) ?_ ?_ | refine Po.mul (by assumption) ?_ ?_ | refine Po.monic (by assumption) ?_ | refine Po.rest (by assumption) (Po.mul (by assumption) ?_ ?_) ?_ | refine Po.rest (by assumption) ?_ ?_ | refine Po.gcd (by assumption) ?_ ?_ | refine Po.pow (by assumption) ?_ ?_ | refine Po.quot (by assumption) ?_ ?_ ?_ | refine Po.lo ?_))); (case x9 => (repeat' (first | assumption | exact Po.lit1 (by assumption) | exact Po.litx (by assumption) | refine Po.sub (by assumption) ?_ ?_ | refine Po.mul (by assumption) ?_ ?_ | refine Po.monic (by assumption) ?_ | refine Po.rest (by assumption) (Po.mul (by assumption) ?_ ?_) ?_ | refine Po.rest (by assumption) ?_ ?_ | refine Po.gcd (by assumption) ?_ ?_ | refine Po.pow (by assumption) ?_ ?_ | refine Po.quot (by assumption) ?_ ?_ ?_ | refine Po.lo ?_))); (case x10 => (first | assumption | omega)); (case d1 => exact Nat.le_of_ble_eq_true rfl); (case d2 => exact Nat.le_of_ble_eq_true rfl)); (intro l' vs' n' h' tk' F' N' ne' i'); (try k_sweep)) | (k_here; (with_reducible show wpAny _ _ (call (Value.ref 61) [Value.ref _, Value.ref _, Value.int _ _]) _ _ _); k_dflt (refine' use_L (msub_po ?x1 ?x2 ?x3 ?x4 ?x5 ?x6 ?x7 ?x8 ?x9) ?k1 ?k2 ?_ rfl ?d1 ?d2; (case k1 => k_asm); (case k2 => k_asm); (case x1 => k_in); (case x2 => exact Top.keeps (by assumption) (Fr.keep (by k_asm))); (case x3 => is_list); (case x4 => l_ints); (case x5 => is_list); (case x6 => l_ints); (case x7 => (first | assumption | omega)); (case x8 => (repeat' (first | assumption | exact Po.lit1 (by assumption) | exact Po.litx (by assumption) | refine Po.sub (by assumption) ?_ ?_ | refine Po.mul (by assumption) ?_ ?_ | refine Po.monic (by assumption) ?_ | refine Po.rest (by assumption) (Po.mul (by assumption) ?_ ?_) ?_ | refine Po.rest (by assumption) ?_ ?_ | refine Po.gcd (by assumption) ?_ ?_ | refine Po.pow (by assumption) ?_ ?_ | refine Po.quot (by assumption) ?_ ?_ ?_ | refine Po.lo ?_))); (case x9 => (repeat' (first | assumption | exact Po.lit1 (by assumption) | exact Po.litx (by assumption) | refine Po.sub (by assumption) ?_ ?_ | refine Po.mul (by assumption) ?_ ?_ | refine Po.monic (by assumption) ?_ | refine Po.rest (by assumption) (Po.mul (by assumption) ?_ ?_) ?_ | refine Po.rest (by assumption) ?_ ?_ | refine Po.gcd (by assumption) ?_ ?_ | refine Po.pow (by assumption) ?_ ?_ | refine Po.quot (by assumption) ?_ ?_ ?_ | refine Po.lo ?_))); (case d1 => exact Nat.le_of_ble_eq_true rfl); (case d2 => exact Nat.le_of_ble_eq_true rfl)); (intro l' vs' n' h' tk' F' N' ne' i'); (try k_sweep)) | (k_here; (with_reducible show wpAny _ _ (call (Value.ref 42) [Value.ref _]) _ _ _); k_dflt (refine' use_I (mdegree_ok ?x1 ?x2 ?x3 ?x4 ?x5) ?k1 ?k2 ?_ rfl ?d1 ?d2; (case k1 => k_asm); (case k2 => k_asm); (case x1 => k_in); (case x2 => exact Top.keeps (by assumption) (Fr.keep (by k_asm))); (case x3 => is_list); (case x4 => l_ints); (case x5 => (first | assumption | omega | (refine Pn.lt (n := 20) ?_ (by decide); (repeat' (first | assumption | exact Po.lit1 (by assumption) | exact Po.litx (by assumption) | refine Po.sub (by assumption) ?_ ?_ | refine Po.mul (by assumption) ?_ ?_ | refine Po.monic (by assumption) ?_ | refine Po.rest (by assumption) (Po.mul (by assumption) ?_ ?_) ?_ | refine Po.rest (by assumption) ?_ ?_ | refine Po.gcd (by assumption) ?_ ?_ | refine Po.pow (by assumption) ?_ ?_ | refine Po.quot (by assumption) ?_ ?_ ?_ | refine Po.lo ?_))))); (case d1 => exact Nat.le_of_ble_eq_true rfl); (case d2 => exact Nat.le_of_ble_eq_true rfl)); (intro t' h' tk' F' N'); (try k_sweep)) | walk1 | (dsimp only; walk1)))
      refine hRq _ _ ?_
      dsimp only [KswPost]
      rename News _ _ _ _ => N9
      rename Fr _ _ _ _ => F9
      simp only [List.push_toArray] at N9
      rename IntsAre _ (mrestI _ _ _) => j1
      rename IntsAre _ (mquotientI _ _ _) => j2
      rename IntsAre _ (mgcdI _ _ _) => j3
      have qr := Po.rest h3 qP qf
      obtain ⟨X, hX, N9⟩ := split7 N9
      have hXne : ∀ q ∈ X, q.1 ≠ fa := by
        rw [hX]
        refine List.forall_mem_cons.mpr ⟨?_, List.forall_mem_cons.mpr ⟨?_, List.forall_mem_cons.mpr ⟨?_, List.forall_mem_cons.mpr ⟨?_, List.forall_mem_cons.mpr ⟨?_, List.forall_mem_cons.mpr ⟨?_, List.forall_mem_cons.mpr ⟨?_, List.forall_mem_nil _⟩⟩⟩⟩⟩⟩⟩ <;> dsimp only <;> (first | exact ne_of_news (by assumption) (by (repeat (first | assumption | exact List.Mem.head _ | refine List.mem_cons_of_mem _ ?_)) ) | omega | (refine neN ?_; (try dsimp only); omega))
      have hmX : ∀ q ∈ X, q ∈ X ++ led := fun q hq => List.mem_append_left _ hq
      refine' ksw_end (c' := ⟨fa, fs ++ [_], fn + 1, r0 ++ [(mgcdI p (msubI p (mpowerI p xs p ys) [0, 1]) ys, d + 1)], d + 1, _, _, _, _, _, X ++ led, mrestI p (mpowerI p xs p ys) (mquotientI p ys (mgcdI p (msubI p (mpowerI p xs p ys) [0, 1]) ys)), mquotientI p ys (mgcdI p (msubI p (mpowerI p xs p ys) [0, 1]) ys), k⟩) (F := F9) (N := N9) (hn := mem_mid) trivial ?hk0 ?hr0 ⟨j1, j2, .here (hmX _ ?mm0), .here (hmX _ ?mn0), qr, qf, ?hy0, ?hd0, ?hf0, (hpr.more ?ms0).snoc (hmX _ ?mt0) (.here (hmX _ ?mu0)) j3, ?ne0, r2, hG2, ?rr0⟩ ?hm0
      (case mm0 => rw [hX]; (repeat (first | assumption | exact List.Mem.head _ | refine List.mem_cons_of_mem _ ?_)))
      (case mn0 => rw [hX]; (repeat (first | assumption | exact List.Mem.head _ | refine List.mem_cons_of_mem _ ?_)))
      (case mt0 => rw [hX]; (repeat (first | assumption | exact List.Mem.head _ | refine List.mem_cons_of_mem _ ?_)))
      (case mu0 => rw [hX]; (repeat (first | assumption | exact List.Mem.head _ | refine List.mem_cons_of_mem _ ?_)))
      (case hk0 => kst_all)
      (case hr0 => exact (by intro z h2 h3; simp only [List.contains_cons, List.contains_nil, Bool.or_false, Bool.or_eq_false_iff, beq_eq_false_iff_ne, ne_eq] at h3; (try simp only [List.forall_mem_cons, List.not_mem_nil, false_implies, implies_true, and_true, ne_eq] at h2); simp [h2, h3, mapB, kstB]))
      (case ms0 => exact fun q hq => List.mem_append_right _ hq)
      (case hy0 => dsimp only; omega)
      (case hd0 => dsimp only; omega)
      (case hf0 => dsimp only; rw [List.length_append, List.length_singleton]; omega)
      (case hm0 => dsimp only; omega)
      (case ne0 => exact fun q hq => (List.mem_append.mp hq).elim (hXne q) (hne q))
      (case rr0 => rw [hr]; dsimp only; rw [List.append_assoc]; rfl)
    · rw [if_neg hc2] at hG
      (repeat' (first | (k_here; (with_reducible show wpAny _ _ (call (Value.ref 115) [Value.ref _, Value.ref _, Value.int _ _]) _ _ _); k_dflt (refine' use_L (mgcd_ok ?x1 ?x2 ?x3 ?x4 ?x5 ?x6 ?x7 ?x8 ?x9) ?k1 ?k2 ?_ rfl ?d1 ?d2; (case k1 => k_asm); (case k2 => k_asm); (case x1 => k_in); (case x2 => exact Top.keeps (by assumption) (Fr.keep (by k_asm))); (case x3 => is_list); (case x4 => l_ints); (case x5 => is_list); (case x6 => l_ints); (case x7 => (first | assumption | omega)); (case x8 => (repeat' (first | assumption | exact Po.lit1 (by assumption) | exact Po.litx (by assumption) | refine Po.sub (by assumption) ?_ ?_ | refine Po.mul (by assumption) ?_ ?_ | refine Po.monic (by assumption) ?_ | refine Po.rest (by assumption) (Po.mul (by assumption) ?_ ?_) ?_ | refine Po.rest (by assumption) ?_ ?_ | refine Po.gcd (by assumption) ?_ ?_ | refine Po.pow (by assumption) ?_ ?_ | refine Po.quot (by assumption) ?_ ?_ ?_ | refine Po.lo ?_))); (case x9 => (repeat' (first | assumption | exact Po.lit1 (by assumption) | exact Po.litx (by assumption) | refine Po.sub (by assumption) ?_ ?_ | refine Po.mul (by assumption) ?_ ?_ | refine Po.monic (by assumption) ?_ | refine Po.rest (by assumption) (Po.mul (by assumption) ?_ ?_) ?_ | refine Po.rest (by assumption) ?_ ?_ | refine Po.gcd (by assumption) ?_ ?_ | refine Po.pow (by assumption) ?_ ?_ | refine Po.quot (by assumption) ?_ ?_ ?_ | refine Po.lo ?_))); (case d1 => exact Nat.le_of_ble_eq_true rfl); (case d2 => exact Nat.le_of_ble_eq_true rfl)); (intro l' vs' n' h' tk' F' N' ne' i'); (try k_sweep)) | (k_here; (with_reducible show wpAny _ _ (call (Value.ref 108) [Value.ref _, Value.int _ _, Value.ref _, Value.int _ _]) _ _ _); k_dflt (refine' use_L (mpower_ok ?x1 ?x2 ?x3 ?x4 ?x5 ?x6 ?x7 ?x8 ?x9 ?x10 ?x11) ?k1 ?k2 ?_ rfl ?d1 ?d2; (case k1 => k_asm); (case k2 => k_asm); (case x1 => k_in); (case x2 => exact Top.keeps (by assumption) (Fr.keep (by k_asm))); (case x3 => is_list); (case x4 => l_ints); (case x5 => is_list); (case x6 => l_ints); (case x7 => (first | assumption | omega)); (case x8 => (repeat' (first | assumption | exact Po.lit1 (by assumption) | exact Po.litx (by assumption) | refine Po.sub (by assumption) ?_ ?_ | refine Po.mul (by assumption) ?_ ?_ | refine Po.monic (by assumption) ?_ | refine Po.rest (by assumption) (Po.mul (by assumption) ?_ ?_) ?_ | refine Po.rest (by assumption) ?_ ?_ | refine Po.gcd (by assumption) ?_ ?_ | refine Po.pow (by assumption) ?_ ?_ | refine Po.quot (by assumption) ?_ ?_ ?_ | refine Po.lo ?_))); (case x9 => (repeat' (first | assumption | exact Po.lit1 (by assumption) | exact Po.litx (by assumption) | refine Po.sub (by assumption) ?_ ?_ | refine Po.mul (by assumption) ?_ ?_ | refine Po.monic (by assumption) ?_ | refine Po.rest (by assumption) (Po.mul (by assumption) ?_ ?_) ?_ | refine Po.rest (by assumption) ?_ ?_ | refine Po.gcd (by assumption) ?_ ?_ | refine Po.pow (by assumption) ?_ ?_ | refine Po.quot (by assumption) ?_ ?_ ?_ | refine Po.lo ?_))); (case x10 => (first | assumption | omega)); (case x11 => (first | assumption | omega)); (case d1 => exact Nat.le_of_ble_eq_true rfl); (case d2 => exact Nat.le_of_ble_eq_true rfl)); (intro l' vs' n' h' tk' F' N' ne' i'); (try k_sweep)) | (k_here; (with_reducible show wpAny _ _ (call (Value.ref 94) [Value.ref _, Value.ref _, Value.int _ _]) _ _ _); k_dflt (refine' use_L (mquotient_ok ?x1 ?x2 ?x3 ?x4 ?x5 ?x6 ?x7 ?x8 ?x9 ?x10) ?k1 ?k2 ?_ rfl ?d1 ?d2; (case k1 => k_asm); (case k2 => k_asm); (case x1 => k_in); (case x2 => exact Top.keeps (by assumption) (Fr.keep (by k_asm))); (case x3 => is_list); (case x4 => l_ints); (case x5 => is_list); (case x6 => l_ints); (case x7 => (first | assumption | omega)); (case x8 => (repeat' (first | assumption | exact Po.lit1 (by assumption) | exact Po.litx (by assumption) | refine Po.sub (by assumption) ?_ ?_ | refine Po.mul (by assumption) ?_ ?_ | refine Po.monic (by assumption) ?_ | refine Po.rest (by assumption) (Po.mul (by assumption) ?_ ?_) ?_ | refine Po.rest (by assumption) ?_ ?_ | refine Po.gcd (by assumption) ?_ ?_ | refine Po.pow (by assumption) ?_ ?_ | refine Po.quot (by assumption) ?_ ?_ ?_ | refine Po.lo ?_))); (case x9 => (repeat' (first | assumption | exact Po.lit1 (by assumption) | exact Po.litx (by assumption) | refine Po.sub (by assumption) ?_ ?_ | refine Po.mul (by assumption) ?_ ?_ | refine Po.monic (by assumption) ?_ | refine Po.rest (by assumption) (Po.mul (by assumption) ?_ ?_) ?_ | refine Po.rest (by assumption) ?_ ?_ | refine Po.gcd (by assumption) ?_ ?_ | refine Po.pow (by assumption) ?_ ?_ | refine Po.quot (by assumption) ?_ ?_ ?_ | refine Po.lo ?_))); (case x10 => (first | assumption | omega)); (case d1 => exact Nat.le_of_ble_eq_true rfl); (case d2 => exact Nat.le_of_ble_eq_true rfl)); (intro l' vs' n' h' tk' F' N' ne' i'); (try k_sweep)) | (k_here; (with_reducible show wpAny _ _ (call (Value.ref 87) [Value.ref _, Value.ref _, Value.int _ _]) _ _ _); k_dflt (refine' use_L (mrest_ok ?x1 ?x2 ?x3 ?x4 ?x5 ?x6 ?x7 ?x8 ?x9 ?x10) ?k1 ?k2 ?_ rfl ?d1 ?d2; (case k1 => k_asm); (case k2 => k_asm); (case x1 => k_in); (case x2 => exact Top.keeps (by assumption) (Fr.keep (by k_asm))); (case x3 => is_list); (case x4 => l_ints); (case x5 => is_list); (case x6 => l_ints); (case x7 => (first | assumption | omega)); (case x8 => (repeat' (first | assumption | exact Po.lit1 (by assumption) | exact Po.litx (by assumption) | refine Po.sub (by assumption) ?_ ?_ | refine Po.mul (by assumption) ?_ ?_ | refine Po.monic (by assumption) ?_ | refine Po.rest (by assumption) (Po.mul (by assumption) ?_ ?_) ?_ | refine Po.rest (by assumption) ?_ ?_ | refine Po.gcd (by assumption) ?_ ?_ | refine Po.pow (by assumption) ?_ ?_ | refine Po.quot (by assumption) ?_ ?_ ?_ | refine Po.lo ?_))); (case x9 => (repeat' (first | assumption | exact Po.lit1 (by assumption) | exact Po.litx (by assumption) | refine Po.sub (by assumption) ?_ ?_ | refine Po.mul (by assumption) ?_ ?_ | refine Po.monic (by assumption) ?_ | refine Po.rest (by assumption) (Po.mul (by assumption) ?_ ?_) ?_ | refine Po.rest (by assumption) ?_ ?_ | refine Po.gcd (by assumption) ?_ ?_ | refine Po.pow (by assumption) ?_ ?_ | refine Po.quot (by assumption) ?_ ?_ ?_ | refine Po.lo ?_))); (case x10 => (first | assumption | omega)); (case d1 => exact Nat.le_of_ble_eq_true rfl); (case d2 => exact Nat.le_of_ble_eq_true rfl)); (intro l' vs' n' h' tk' F' N' ne' i'); (try k_sweep)) | (k_here; (with_reducible show wpAny _ _ (call (Value.ref 61) [Value.ref _, Value.ref _, Value.int _ _]) _ _ _); k_dflt (refine' use_L (msub_po ?x1 ?x2 ?x3 ?x4 ?x5 ?x6 ?x7 ?x8 ?x9) ?k1 ?k2 ?_ rfl ?d1 ?d2; (case k1 => k_asm); (case k2 => k_asm); (case x1 => k_in); (case x2 => exact Top.keeps (by assumption) (Fr.keep (by k_asm))); (case x3 => is_list); (case x4 => l_ints); (case x5 => is_list); (case x6 => l_ints); (case x7 => (first | assumption | omega)); (case x8 => (repeat' (first | assumption | exact Po.lit1 (by assumption) | exact Po.litx (by assumption) | refine Po.sub (by assumption) ?_ ?_ | refine Po.mul (by assumption) ?_ ?_ | refine Po.monic (by assumption) ?_ | refine Po.rest (by assumption) (Po.mul (by assumption) ?_ ?_) ?_ | refine Po.rest (by assumption) ?_ ?_ | refine Po.gcd (by assumption) ?_ ?_ | refine Po.pow (by assumption) ?_ ?_ | refine Po.quot (by assumption) ?_ ?_ ?_ | refine Po.lo ?_))); (case x9 => (repeat' (first | assumption | exact Po.lit1 (by assumption) | exact Po.litx (by assumption) | refine Po.sub (by assumption) ?_ ?_ | refine Po.mul (by assumption) ?_ ?_ | refine Po.monic (by assumption) ?_ | refine Po.rest (by assumption) (Po.mul (by assumption) ?_ ?_) ?_ | refine Po.rest (by assumption) ?_ ?_ | refine Po.gcd (by assumption) ?_ ?_ | refine Po.pow (by assumption) ?_ ?_ | refine Po.quot (by assumption) ?_ ?_ ?_ | refine Po.lo ?_))); (case d1 => exact Nat.le_of_ble_eq_true rfl); (case d2 => exact Nat.le_of_ble_eq_true rfl)); (intro l' vs' n' h' tk' F' N' ne' i'); (try k_sweep)) | (k_here; (with_reducible show wpAny _ _ (call (Value.ref 42) [Value.ref _]) _ _ _); k_dflt (refine' use_I (mdegree_ok ?x1 ?x2 ?x3 ?x4 ?x5) ?k1 ?k2 ?_ rfl ?d1 ?d2; (case k1 => k_asm); (case k2 => k_asm); (case x1 => k_in); (case x2 => exact Top.keeps (by assumption) (Fr.keep (by k_asm))); (case x3 => is_list); (case x4 => l_ints); (case x5 => (first | assumption | omega | (refine Pn.lt (n := 20) ?_ (by decide); (repeat' (first | assumption | exact Po.lit1 (by assumption) | exact Po.litx (by assumption) | refine Po.sub (by assumption) ?_ ?_ | refine Po.mul (by assumption) ?_ ?_ | refine Po.monic (by assumption) ?_ | refine Po.rest (by assumption) (Po.mul (by assumption) ?_ ?_) ?_ | refine Po.rest (by assumption) ?_ ?_ | refine Po.gcd (by assumption) ?_ ?_ | refine Po.pow (by assumption) ?_ ?_ | refine Po.quot (by assumption) ?_ ?_ ?_ | refine Po.lo ?_))))); (case d1 => exact Nat.le_of_ble_eq_true rfl); (case d2 => exact Nat.le_of_ble_eq_true rfl)); (intro t' h' tk' F' N'); (try k_sweep)) | walk1 | (dsimp only; walk1)))
      refine hRq _ _ ?_
      dsimp only [KswPost]
      rename News _ _ _ _ => N9
      rename Fr _ _ _ _ => F9
      rename IntsAre _ (mpowerI _ _ _ _) => j1
      have qP : Po p (mpowerI p xs p ys) := Po.pow h3 q1 q2
      obtain ⟨X, hX, N9⟩ := split4 N9
      have hXne : ∀ q ∈ X, q.1 ≠ fa := by
        rw [hX]
        refine List.forall_mem_cons.mpr ⟨?_, List.forall_mem_cons.mpr ⟨?_, List.forall_mem_cons.mpr ⟨?_, List.forall_mem_cons.mpr ⟨?_, List.forall_mem_nil _⟩⟩⟩⟩ <;> dsimp only <;> (first | exact ne_of_news (by assumption) (by (repeat (first | assumption | exact List.Mem.head _ | refine List.mem_cons_of_mem _ ?_)) ) | omega | (refine neN ?_; (try dsimp only); omega))
      refine' ksw_end (c' := ⟨fa, fs, fn, r0, d + 1, _, _, b, _, vs, X ++ led, mpowerI p xs p ys, ys, k⟩) (F := F9) (N := N9) (hn := mem_mid) trivial ?hk1 ?hr1 ⟨j1, i2, .here (List.mem_append_left _ ?mm1), l2.more ?ms1, qP, q2, hy, ?hd1, ?hf1, hpr.more ?ms2, ?ne1, r', hG, hr⟩ ?hm1
      (case mm1 => rw [hX]; (repeat (first | assumption | exact List.Mem.head _ | refine List.mem_cons_of_mem _ ?_)))
      (case hk1 => kst_all)
      (case hr1 => exact (by intro z h2 h3; simp only [List.contains_cons, List.contains_nil, Bool.or_false, Bool.or_eq_false_iff, beq_eq_false_iff_ne, ne_eq] at h3; (try simp only [List.forall_mem_cons, List.not_mem_nil, false_implies, implies_true, and_true, ne_eq] at h2); simp [h2, h3, mapB, kstB]))
      (case ms1 => exact fun q hq => List.mem_append_right _ hq)
      (case ms2 => exact fun q hq => List.mem_append_right _ hq)
      (case hd1 => dsimp only; omega)
      (case hf1 => dsimp only; omega)
      (case hm1 => dsimp only; omega)
      (case ne1 => exact fun q hq => (List.mem_append.mp hq).elim (hXne q) (hne q))
  · rw [if_neg hc1] at hG
    (repeat' (first | (k_here; (with_reducible show wpAny _ _ (call (Value.ref 115) [Value.ref _, Value.ref _, Value.int _ _]) _ _ _); k_dflt (refine' use_L (mgcd_ok ?x1 ?x2 ?x3 ?x4 ?x5 ?x6 ?x7 ?x8 ?x9) ?k1 ?k2 ?_ rfl ?d1 ?d2; (case k1 => k_asm); (case k2 => k_asm); (case x1 => k_in); (case x2 => exact Top.keeps (by assumption) (Fr.keep (by k_asm))); (case x3 => is_list); (case x4 => l_ints); (case x5 => is_list); (case x6 => l_ints); (case x7 => (first | assumption | omega)); (case x8 => (repeat' (first | assumption | exact Po.lit1 (by assumption) | exact Po.litx (by assumption) | refine Po.sub (by assumption) ?_ ?_ | refine Po.mul (by assumption) ?_ ?_ | refine Po.monic (by assumption) ?_ | refine Po.rest (by assumption) (Po.mul (by assumption) ?_ ?_) ?_ | refine Po.rest (by assumption) ?_ ?_ | refine Po.gcd (by assumption) ?_ ?_ | refine Po.pow (by assumption) ?_ ?_ | refine Po.quot (by assumption) ?_ ?_ ?_ | refine Po.lo ?_))); (case x9 => (repeat' (first | assumption | exact Po.lit1 (by assumption) | exact Po.litx (by assumption) | refine Po.sub (by assumption) ?_ ?_ | refine Po.mul (by assumption) ?_ ?_ | refine Po.monic (by assumption) ?_ | refine Po.rest (by assumption) (Po.mul (by assumption) ?_ ?_) ?_ | refine Po.rest (by assumption) ?_ ?_ | refine Po.gcd (by assumption) ?_ ?_ | refine Po.pow (by assumption) ?_ ?_ | refine Po.quot (by assumption) ?_ ?_ ?_ | refine Po.lo ?_))); (case d1 => exact Nat.le_of_ble_eq_true rfl); (case d2 => exact Nat.le_of_ble_eq_true rfl)); (intro l' vs' n' h' tk' F' N' ne' i'); (try k_sweep)) | (k_here; (with_reducible show wpAny _ _ (call (Value.ref 108) [Value.ref _, Value.int _ _, Value.ref _, Value.int _ _]) _ _ _); k_dflt (refine' use_L (mpower_ok ?x1 ?x2 ?x3 ?x4 ?x5 ?x6 ?x7 ?x8 ?x9 ?x10 ?x11) ?k1 ?k2 ?_ rfl ?d1 ?d2; (case k1 => k_asm); (case k2 => k_asm); (case x1 => k_in); (case x2 => exact Top.keeps (by assumption) (Fr.keep (by k_asm))); (case x3 => is_list); (case x4 => l_ints); (case x5 => is_list); (case x6 => l_ints); (case x7 => (first | assumption | omega)); (case x8 => (repeat' (first | assumption | exact Po.lit1 (by assumption) | exact Po.litx (by assumption) | refine Po.sub (by assumption) ?_ ?_ | refine Po.mul (by assumption) ?_ ?_ | refine Po.monic (by assumption) ?_ | refine Po.rest (by assumption) (Po.mul (by assumption) ?_ ?_) ?_ | refine Po.rest (by assumption) ?_ ?_ | refine Po.gcd (by assumption) ?_ ?_ | refine Po.pow (by assumption) ?_ ?_ | refine Po.quot (by assumption) ?_ ?_ ?_ | refine Po.lo ?_))); (case x9 => (repeat' (first | assumption | exact Po.lit1 (by assumption) | exact Po.litx (by assumption) | refine Po.sub (by assumption) ?_ ?_ | refine Po.mul (by assumption) ?_ ?_ | refine Po.monic (by assumption) ?_ | refine Po.rest (by assumption) (Po.mul (by assumption) ?_ ?_) ?_ | refine Po.rest (by assumption) ?_ ?_ | refine Po.gcd (by assumption) ?_ ?_ | refine Po.pow (by assumption) ?_ ?_ | refine Po.quot (by assumption) ?_ ?_ ?_ | refine Po.lo ?_))); (case x10 => (first | assumption | omega)); (case x11 => (first | assumption | omega)); (case d1 => exact Nat.le_of_ble_eq_true rfl); (case d2 => exact Nat.le_of_ble_eq_true rfl)); (intro l' vs' n' h' tk' F' N' ne' i'); (try k_sweep)) | (k_here; (with_reducible show wpAny _ _ (call (Value.ref 94) [Value.ref _, Value.ref _, Value.int _ _]) _ _ _); k_dflt (refine' use_L (mquotient_ok ?x1 ?x2 ?x3 ?x4 ?x5 ?x6 ?x7 ?x8 ?x9 ?x10) ?k1 ?k2 ?_ rfl ?d1 ?d2; (case k1 => k_asm); (case k2 => k_asm); (case x1 => k_in); (case x2 => exact Top.keeps (by assumption) (Fr.keep (by k_asm))); (case x3 => is_list); (case x4 => l_ints); (case x5 => is_list); (case x6 => l_ints); (case x7 => (first | assumption | omega)); (case x8 => (repeat' (first | assumption | exact Po.lit1 (by assumption) | exact Po.litx (by assumption) | refine Po.sub (by assumption) ?_ ?_ | refine Po.mul (by assumption) ?_ ?_ | refine Po.monic (by assumption) ?_ | refine Po.rest (by assumption) (Po.mul (by assumption) ?_ ?_) ?_ | refine Po.rest (by assumption) ?_ ?_ | refine Po.gcd (by assumption) ?_ ?_ | refine Po.pow (by assumption) ?_ ?_ | refine Po.quot (by assumption) ?_ ?_ ?_ | refine Po.lo ?_))); (case x9 => (repeat' (first | assumption | exact Po.lit1 (by assumption) | exact Po.litx (by assumption) | refine Po.sub (by assumption) ?_ ?_ | refine Po.mul (by assumption) ?_ ?_ | refine Po.monic (by assumption) ?_ | refine Po.rest (by assumption) (Po.mul (by assumption) ?_ ?_) ?_ | refine Po.rest (by assumption) ?_ ?_ | refine Po.gcd (by assumption) ?_ ?_ | refine Po.pow (by assumption) ?_ ?_ | refine Po.quot (by assumption) ?_ ?_ ?_ | refine Po.lo ?_))); (case x10 => (first | assumption | omega)); (case d1 => exact Nat.le_of_ble_eq_true rfl); (case d2 => exact Nat.le_of_ble_eq_true rfl)); (intro l' vs' n' h' tk' F' N' ne' i'); (try k_sweep)) | (k_here; (with_reducible show wpAny _ _ (call (Value.ref 87) [Value.ref _, Value.ref _, Value.int _ _]) _ _ _); k_dflt (refine' use_L (mrest_ok ?x1 ?x2 ?x3 ?x4 ?x5 ?x6 ?x7 ?x8 ?x9 ?x10) ?k1 ?k2 ?_ rfl ?d1 ?d2; (case k1 => k_asm); (case k2 => k_asm); (case x1 => k_in); (case x2 => exact Top.keeps (by assumption) (Fr.keep (by k_asm))); (case x3 => is_list); (case x4 => l_ints); (case x5 => is_list); (case x6 => l_ints); (case x7 => (first | assumption | omega)); (case x8 => (repeat' (first | assumption | exact Po.lit1 (by assumption) | exact Po.litx (by assumption) | refine Po.sub (by assumption) ?_ ?_ | refine Po.mul (by assumption) ?_ ?_ | refine Po.monic (by assumption) ?_ | refine Po.rest (by assumption) (Po.mul (by assumption) ?_ ?_) ?_ | refine Po.rest (by assumption) ?_ ?_ | refine Po.gcd (by assumption) ?_ ?_ | refine Po.pow (by assumption) ?_ ?_ | refine Po.quot (by assumption) ?_ ?_ ?_ | refine Po.lo ?_))); (case x9 => (repeat' (first | assumption | exact Po.lit1 (by assumption) | exact Po.litx (by assumption) | refine Po.sub (by assumption) ?_ ?_ | refine Po.mul (by assumption) ?_ ?_ | refine Po.monic (by assumption) ?_ | refine Po.rest (by assumption) (Po.mul (by assumption) ?_ ?_) ?_ | refine Po.rest (by assumption) ?_ ?_ | refine Po.gcd (by assumption) ?_ ?_ | refine Po.pow (by assumption) ?_ ?_ | refine Po.quot (by assumption) ?_ ?_ ?_ | refine Po.lo ?_))); (case x10 => (first | assumption | omega)); (case d1 => exact Nat.le_of_ble_eq_true rfl); (case d2 => exact Nat.le_of_ble_eq_true rfl)); (intro l' vs' n' h' tk' F' N' ne' i'); (try k_sweep)) | (k_here; (with_reducible show wpAny _ _ (call (Value.ref 61) [Value.ref _, Value.ref _, Value.int _ _]) _ _ _); k_dflt (refine' use_L (msub_po ?x1 ?x2 ?x3 ?x4 ?x5 ?x6 ?x7 ?x8 ?x9) ?k1 ?k2 ?_ rfl ?d1 ?d2; (case k1 => k_asm); (case k2 => k_asm); (case x1 => k_in); (case x2 => exact Top.keeps (by assumption) (Fr.keep (by k_asm))); (case x3 => is_list); (case x4 => l_ints); (case x5 => is_list); (case x6 => l_ints); (case x7 => (first | assumption | omega)); (case x8 => (repeat' (first | assumption | exact Po.lit1 (by assumption) | exact Po.litx (by assumption) | refine Po.sub (by assumption) ?_ ?_ | refine Po.mul (by assumption) ?_ ?_ | refine Po.monic (by assumption) ?_ | refine Po.rest (by assumption) (Po.mul (by assumption) ?_ ?_) ?_ | refine Po.rest (by assumption) ?_ ?_ | refine Po.gcd (by assumption) ?_ ?_ | refine Po.pow (by assumption) ?_ ?_ | refine Po.quot (by assumption) ?_ ?_ ?_ | refine Po.lo ?_))); (case x9 => (repeat' (first | assumption | exact Po.lit1 (by assumption) | exact Po.litx (by assumption) | refine Po.sub (by assumption) ?_ ?_ | refine Po.mul (by assumption) ?_ ?_ | refine Po.monic (by assumption) ?_ | refine Po.rest (by assumption) (Po.mul (by assumption) ?_ ?_) ?_ | refine Po.rest (by assumption) ?_ ?_ | refine Po.gcd (by assumption) ?_ ?_ | refine Po.pow (by assumption) ?_ ?_ | refine Po.quot (by assumption) ?_ ?_ ?_ | refine Po.lo ?_))); (case d1 => exact Nat.le_of_ble_eq_true rfl); (case d2 => exact Nat.le_of_ble_eq_true rfl)); (intro l' vs' n' h' tk' F' N' ne' i'); (try k_sweep)) | (k_here; (with_reducible show wpAny _ _ (call (Value.ref 42) [Value.ref _]) _ _ _); k_dflt (refine' use_I (mdegree_ok ?x1 ?x2 ?x3 ?x4 ?x5) ?k1 ?k2 ?_ rfl ?d1 ?d2; (case k1 => k_asm); (case k2 => k_asm); (case x1 => k_in); (case x2 => exact Top.keeps (by assumption) (Fr.keep (by k_asm))); (case x3 => is_list); (case x4 => l_ints); (case x5 => (first | assumption | omega | (refine Pn.lt (n := 20) ?_ (by decide); (repeat' (first | assumption | exact Po.lit1 (by assumption) | exact Po.litx (by assumption) | refine Po.sub (by assumption) ?_ ?_ | refine Po.mul (by assumption) ?_ ?_ | refine Po.monic (by assumption) ?_ | refine Po.rest (by assumption) (Po.mul (by assumption) ?_ ?_) ?_ | refine Po.rest (by assumption) ?_ ?_ | refine Po.gcd (by assumption) ?_ ?_ | refine Po.pow (by assumption) ?_ ?_ | refine Po.quot (by assumption) ?_ ?_ ?_ | refine Po.lo ?_))))); (case d1 => exact Nat.le_of_ble_eq_true rfl); (case d2 => exact Nat.le_of_ble_eq_true rfl)); (intro t' h' tk' F' N'); (try k_sweep)) | walk1 | (dsimp only; walk1)))
    · rename News _ _ _ _ => N9
      rename Fr _ _ _ _ => F9
      simp only [List.push_toArray] at N9
      rw [if_pos (by omega)] at hG
      obtain rfl := Option.some.inj hG
      exact hQ _ _ _ F9.keep ⟨fa, fs ++ [_], fn + 1, _, rfl, fun q hq => ⟨(N9 q hq).2.2, (N9 q hq).1⟩, .tail _ (.head _), hr ▸ (hpr.more (fun q hq => .tail _ (.tail _ hq))).snoc (.head _) (l2.more (fun q hq => .tail _ (.tail _ hq))) i2⟩
    · rename News _ _ _ _ => N9
      rename Fr _ _ _ _ => F9
      rw [if_neg (by omega)] at hG
      obtain rfl := Option.some.inj hG
      rw [List.append_nil] at hr
      exact hQ _ _ _ F9.keep ⟨fa, fs, fn, _, rfl, fun q hq => ⟨(N9 q hq).2.2, (N9 q hq).1⟩, .head _, hr ▸ hpr.more (fun q hq => .tail _ hq)⟩
end
end
theorem top_off_F12 : True := by
  w_top off
  trivial

section
set_option maxRecDepth 100000
set_option linter.unusedVariables false
set_option linter.unusedSimpArgs false
open PySem PySem.W PySem.Calls PyProof.Rows PySem.Spec
theorem fill_F12 : PySem.Challenge.rw_nn0250_01 = PySem.Challenge.rw_nn0250_01 ∧ hd.heap_39 = hd.heap_39 := by
  k_fill
  exact ⟨rfl, rfl⟩

theorem trimI_id {xs : List Int} (h : xs = [] ∨ xs.getD (xs.length - 1) 0 ≠ 0) : trimI xs = xs := by
  have := trimI_take xs xs.length (Nat.le_refl _) (fun j h1 h2 => absurd h1 (by omega)) (h.imp (fun e => by rw [e]; rfl) id)
  rwa [List.take_length] at this
theorem trimI_drop {xs : List Int} (h : xs.getD (xs.length - 1) 0 = 0) : trimI xs = trimI xs.dropLast := by
  induction xs with
  | nil => rfl
  | cons x r ih =>
    cases r with
    | nil =>
      have : x = 0 := by simpa using h
      simp [trimI, this]
    | cons y s =>
      have h' : (y :: s).getD ((y :: s).length - 1) 0 = 0 := by simpa using h
      rw [List.dropLast_cons_cons, trimI, ih h']
      rfl
structure CS where
  fa : Addr
  vs : List Value
  fn : Nat
  led : List (Addr × Obj)
  xs : List Int
noncomputable abbrev CS.all (c : CS) : List (Addr × Obj) := (c.fa, listOf c.vs.toArray c.fn) :: c.led
section


set_option maxHeartbeats 4000000 in
theorem lawcut_ok : ∀ {w : World} {mean : ExcName → Option Value} {mg mb : Str → Option Value} {s : Shared} {a : Addr} {us : List Value} {xs : List Int}
    (_ : (hd.heap_39 w.params).In s.heap) (_ : Top hd.view_39 (looseW hd.view_39 []) mean mg mb s.heap)
    (_ : s.heap.IsList a us.toArray) (_ : IntsAre us xs) (_ : xs.length < 1000), Fn w 0 141 s [.ref a] (NewL s.heap (trimI xs)) := by
  intro w mean mg mb s a us xs X T h1 h2 h3
  intro Q E hQ
  refine wpAny_call ?_
  refine enter (binds := [(Str.ofString "a", .ref a)]) (by assumption) (by assumption) (by k_is) (by k_is) (by decide) (BindsTo.of_eq rfl) (locs rfl) ?_ (by decide) rfl rfl rfl
  intro L h₁ F N
  k_fold
  (repeat' (first | walk1 | (dsimp only; walk1)))
  unfold Halt
  rename News _ _ _ _ => N0
  rename Fr _ _ _ _ => F0
  generalize hR : trimI xs = R at hQ
  refine whileR CS.all (fun c => [(Str.ofString "found", .ref c.fa)]) (fun _ => True) []
    (fun c => IntsAre c.vs c.xs ∧ (∀ q ∈ c.led, q.1 ≠ c.fa) ∧ c.xs.length < 1000 ∧ trimI c.xs = R) (fun c => c.xs.length)
    ⟨_, us, _, [], xs⟩ F0 N0 trivial (by kst_all) ⟨h2, List.forall_mem_nil _, h3, hR⟩ ?_
  rintro c0 u h tk - hP0 F' N' Rq hRq
  obtain ⟨fa, vs, fn, led, xs⟩ := c0
  try dsimp only at hP0
  obtain ⟨i1, hne, hl, hR⟩ := hP0
  try dsimp only at i1 hne hl hR F'
  change News s.heap L h ((fa, listOf vs.toArray fn) :: led) at N'
  have hv := i1.length
  by_cases h0 : 0 < xs.length
  · have e1 : (-1 + (xs.length : Int)).toNat = xs.length - 1 := by omega
    (repeat' (first | walk1 | (dsimp only; walk1)))
    · rename decide (_ = _) = true => hz0
      have e := of_decide_eq_true hz0
      rw [e] at h0
      exact absurd h0 (by decide)
    · refine hRq _ _ ?_
      dsimp only [KswPost]
      rename News _ _ _ _ => N9
      rename Fr _ _ _ _ => F9
      have hlast : xs.getD (-1 + (xs.length : Int)).toNat 0 = 0 := by assumption
      rw [e1] at hlast
      refine' ksw_end (c' := ⟨fa, vs.dropLast, fn + 1, _ :: led, xs.dropLast⟩) (F := F9) (N := N9) (hn := mem_mid (X := [_])) trivial ?hk ?hr ⟨by assumption, ?ne, ?l0, (trimI_drop hlast).symm.trans hR⟩ ?hm
      (case hk => kst_all)
      (case hr => exact (by intro z h2 h3; simp only [List.contains_cons, List.contains_nil, Bool.or_false, Bool.or_eq_false_iff, beq_eq_false_iff_ne, ne_eq] at h3; (try simp only [List.forall_mem_cons, List.not_mem_nil, false_implies, implies_true, and_true, ne_eq] at h2); simp [h2, h3, mapB, kstB]))
      (case ne => exact List.forall_mem_cons.mpr ⟨by dsimp only; (first | exact ne_of_news (by assumption) (by (repeat (first | assumption | exact List.Mem.head _ | refine List.mem_cons_of_mem _ ?_))) | omega | (refine neN ?_; (try dsimp only); omega)), hne⟩)
      (case l0 => dsimp only; rw [List.length_dropLast]; omega)
      (case hm => dsimp only; rw [List.length_dropLast]; omega)
    · rename News _ _ _ _ => N9
      rename Fr _ _ _ _ => F9
      have hlast : xs.getD (-1 + (xs.length : Int)).toNat 0 ≠ 0 := by assumption
      rw [e1] at hlast
      exact hQ _ _ _ F9.keep (NewL.of N9 (.tail _ (.head _)) (((trimI_id (.inr hlast)).symm.trans hR) ▸ i1))
  · obtain rfl : xs = [] := List.eq_nil_of_length_eq_zero (by omega)
    (repeat' (first | walk1 | (dsimp only; walk1)))
    rename News _ _ _ _ => N9
    rename Fr _ _ _ _ => F9
    exact hQ _ _ _ F9.keep (NewL.of N9 (.tail _ (.head _)) (hR ▸ i1))
end
end
theorem top_off_F13 : True := by
  w_top off
  trivial

section
set_option maxRecDepth 100000
set_option linter.unusedVariables false
set_option linter.unusedSimpArgs false
open PySem PySem.W PySem.Calls PyProof.Rows PySem.Spec
theorem fill_F13 : PySem.Challenge.rw_nn0250_01 = PySem.Challenge.rw_nn0250_01 ∧ hd.heap_39 = hd.heap_39 := by
  k_fill
  exact ⟨rfl, rfl⟩

noncomputable def timesOut (p : Int) (a b : List Int) : Nat → List Int → List Int
  | 0, F => F
  | i + 1, F => mulIn p i (a.getD i 0) b b.length (timesOut p a b i F)
noncomputable def timesI (p : Int) (a b : List Int) : List Int := trimI (timesOut p a b a.length (List.replicate (a.length + b.length) 0))
theorem timesOut_length {p : Int} {a b : List Int} : ∀ {i : Nat} {F : List Int}, (timesOut p a b i F).length = F.length
  | 0, F => rfl
  | i + 1, F => by rw [timesOut, mulIn_length, timesOut_length]
section


set_option maxHeartbeats 4000000 in
theorem lawtimes_ok : ∀ {w : World} {mean : ExcName → Option Value} {mg mb : Str → Option Value} {s : Shared} {a b : Addr} {us vs : List Value} {xs ys : List Int} {p : Int} {tp : Tok}
    (_ : (hd.heap_39 w.params).In s.heap) (_ : Top hd.view_39 (looseW hd.view_39 []) mean mg mb s.heap)
    (_ : s.heap.IsList a us.toArray) (_ : IntsAre us xs) (_ : s.heap.IsList b vs.toArray) (_ : IntsAre vs ys) (_ : (p = 2 ∨ p = 3 ∨ p = 5)) (_ : Po p xs) (_ : Po p ys), Fn w 1 148 s [.ref a, .ref b, .int p tp] (NewL s.heap (timesI p xs ys)) := by
  intro w mean mg mb s a b us vs xs ys p tp X T h1 h2 h3 h4 h5 h6 h7
  intro Q E hQ
  refine wpAny_call ?_
  refine enter (binds := [(Str.ofString "a", .ref a), (Str.ofString "b", .ref b), (Str.ofString "p", .int p tp)]) (by assumption) (by assumption) (by k_is) (by k_is) (by decide) (BindsTo.of_eq rfl) (locs rfl) ?_ (by decide) rfl rfl rfl
  intro L h₁ F N
  k_fold
  have hl1 := h6.len
  have hl2 := h7.len
  have hp0 : p ≠ 0 := by omega
  have hb1 := h6.b100 h5
  have hb2 := h7.b100 h5
  (repeat' (first | (k_here; (with_reducible show wpAny _ _ (call (Value.ref 141) [Value.ref _]) _ _ _); k_dflt (refine' use_L (lawcut_ok ?x1 ?x2 ?x3 ?x4 ?x5) ?k1 ?k2 ?_ rfl ?d1 ?d2; (case k1 => k_asm); (case k2 => k_asm); (case x1 => k_in); (case x2 => exact Top.keeps (by assumption) (Fr.keep (by k_asm))); (case x3 => is_list); (case x4 => l_ints); (case x5 => (first | assumption | omega)); (case d1 => exact Nat.le_of_ble_eq_true rfl); (case d2 => exact Nat.le_of_ble_eq_true rfl)); (intro l' vs' n' h' tk' F' N' ne' i'); (try k_sweep)) | walk1 | (dsimp only; walk1)))
  unfold Halt
  refine For_turns (by assumption) ?_
  (repeat' (first | (k_here; (with_reducible show wpAny _ _ (call (Value.ref 141) [Value.ref _]) _ _ _); k_dflt (refine' use_L (lawcut_ok ?x1 ?x2 ?x3 ?x4 ?x5) ?k1 ?k2 ?_ rfl ?d1 ?d2; (case k1 => k_asm); (case k2 => k_asm); (case x1 => k_in); (case x2 => exact Top.keeps (by assumption) (Fr.keep (by k_asm))); (case x3 => is_list); (case x4 => l_ints); (case x5 => (first | assumption | omega)); (case d1 => exact Nat.le_of_ble_eq_true rfl); (case d2 => exact Nat.le_of_ble_eq_true rfl)); (intro l' vs' n' h' tk' F' N' ne' i'); (try k_sweep)) | walk1 | (dsimp only; walk1)))
  unfold Halt
  rename News _ _ _ _ => N9
  rename Fr _ _ _ _ => F9
  rename IntsAre _ (List.flatten _) => i0
  have en : ((xs.length : Int) + ys.length).toNat = xs.length + ys.length := by omega
  rw [rep_flat, en] at i0
  rw [en] at N9
  replace N9 := News.first N9
  generalize (List.replicate _ [Value.int 0 _]).flatten = ws0 at N9 i0
  generalize hZ : List.replicate (xs.length + ys.length) (0 : Int) = Z at i0
  have hZl : Z.length = xs.length + ys.length := by rw [← hZ, List.length_replicate]
  refine for_range (led1 _) (fun _ => []) [Str.ofString "at", Str.ofString "spot"] (fun i c => IntsAre c.1 (timesOut p xs ys i Z)) (ws0, 0) rfl (by assumption) (small_one (by omega) (by omega) (by omega) (by omega)) (rangeSize_nat _ _) rfl rfl F9 N9 (by kst_all) i0 ?_ ?_
  · rintro c0 i t u h tk own hi hoff hI F' N' Rq hRq
    obtain ⟨ws, n⟩ := c0
    change OwnOff own [_] at hoff
    change IntsAre ws _ at hI
    change Fr s.heap L h _ at F'
    change News s.heap L h ((_, listOf _ n) :: own) at N'
    have ei : (0 : Int) + (i : Int) * 1 = (i : Int) := by omega
    rw [ei] at F'
    (repeat' (first | (k_here; (with_reducible show wpAny _ _ (call (Value.ref 141) [Value.ref _]) _ _ _); k_dflt (refine' use_L (lawcut_ok ?x1 ?x2 ?x3 ?x4 ?x5) ?k1 ?k2 ?_ rfl ?d1 ?d2; (case k1 => k_asm); (case k2 => k_asm); (case x1 => k_in); (case x2 => exact Top.keeps (by assumption) (Fr.keep (by k_asm))); (case x3 => is_list); (case x4 => l_ints); (case x5 => (first | assumption | omega)); (case d1 => exact Nat.le_of_ble_eq_true rfl); (case d2 => exact Nat.le_of_ble_eq_true rfl)); (intro l' vs' n' h' tk' F' N' ne' i'); (try k_sweep)) | walk1 | (dsimp only; walk1)))
    unfold Halt
    refine For_turns (by assumption) ?_
    (repeat' (first | (k_here; (with_reducible show wpAny _ _ (call (Value.ref 141) [Value.ref _]) _ _ _); k_dflt (refine' use_L (lawcut_ok ?x1 ?x2 ?x3 ?x4 ?x5) ?k1 ?k2 ?_ rfl ?d1 ?d2; (case k1 => k_asm); (case k2 => k_asm); (case x1 => k_in); (case x2 => exact Top.keeps (by assumption) (Fr.keep (by k_asm))); (case x3 => is_list); (case x4 => l_ints); (case x5 => (first | assumption | omega)); (case d1 => exact Nat.le_of_ble_eq_true rfl); (case d2 => exact Nat.le_of_ble_eq_true rfl)); (intro l' vs' n' h' tk' F' N' ne' i'); (try k_sweep)) | walk1 | (dsimp only; walk1)))
    unfold Halt
    rename News _ _ _ _ => N8
    rename Fr _ _ _ _ => F8
    refine for_range (ledR _ own) (fun _ => []) [Str.ofString "spot"] (fun j c => IntsAre c.1 (mulIn p i (xs.getD i 0) ys j (timesOut p xs ys i Z))) (ws, n) rfl (by assumption) (small_one (by omega) (by omega) (by omega) (by omega)) (rangeSize_nat _ _) rfl rfl F8 N8 (by kst_all) hI ?_ ?_
    · rintro c0 j t2 u2 h2 tk2 own2 hj hoff2 hI2 F2 N2 Rq2 hRq2
      obtain ⟨ws2, n2⟩ := c0
      change OwnOff own2 (_ :: own.map _) at hoff2
      change IntsAre ws2 _ at hI2
      change Fr s.heap L h2 _ at F2
      change News s.heap L h2 ((_, listOf _ n2) :: (own ++ own2)) at N2
      have ej : (0 : Int) + (j : Int) * 1 = (j : Int) := by omega
      rw [ej] at F2
      have hne := off_app hoff hoff2
      have hb3 := hb1 ((i : Int)).toNat
      have hb4 := hb2 ((j : Int)).toNat
      have hl3 : (mulIn p i (xs.getD i 0) ys j (timesOut p xs ys i Z)).length = xs.length + ys.length := by rw [mulIn_length, timesOut_length, hZl]
      (repeat' (first | (k_here; (with_reducible show wpAny _ _ (call (Value.ref 141) [Value.ref _]) _ _ _); k_dflt (refine' use_L (lawcut_ok ?x1 ?x2 ?x3 ?x4 ?x5) ?k1 ?k2 ?_ rfl ?d1 ?d2; (case k1 => k_asm); (case k2 => k_asm); (case x1 => k_in); (case x2 => exact Top.keeps (by assumption) (Fr.keep (by k_asm))); (case x3 => is_list); (case x4 => l_ints); (case x5 => (first | assumption | omega)); (case d1 => exact Nat.le_of_ble_eq_true rfl); (case d2 => exact Nat.le_of_ble_eq_true rfl)); (intro l' vs' n' h' tk' F' N' ne' i'); (try k_sweep)) | walk1 | (dsimp only; walk1)))
      (first | refine hRq2 _ _ ?_ | refine hRq _ _ ?_)
      dsimp only [TurnPost]
      rename News _ _ _ _ => N7
      rename Fr _ _ _ _ => F7
      rename IntsAre (List.set _ _ _) _ => i9
      have e : ((i : Int) + j).toNat = i + j := by omega
      rw [e, Int.toNat_natCast, Int.toNat_natCast] at i9 N7
      refine TurnEnd.oneR F7 N7 hoff2 (by kst_all) (by intro z h2 h3; simp only [List.contains_cons, List.contains_nil, Bool.or_false, Bool.or_eq_false_iff, beq_eq_false_iff_ne, ne_eq] at h3; (try simp only [List.forall_mem_cons, List.not_mem_nil, false_implies, implies_true, and_true, ne_eq] at h2); simp [h2, h3, mapB, kstB]) ?_
      exact i9
    · rintro ⟨ws2, n2⟩ u2 h2 tk2 hI2 F2 N2
      change IntsAre ws2 _ at hI2
      change Fr s.heap L h2 _ at F2
      change News s.heap L h2 ((_, listOf _ n2) :: own) at N2
      dsimp only
      (repeat' (first | (k_here; (with_reducible show wpAny _ _ (call (Value.ref 141) [Value.ref _]) _ _ _); k_dflt (refine' use_L (lawcut_ok ?x1 ?x2 ?x3 ?x4 ?x5) ?k1 ?k2 ?_ rfl ?d1 ?d2; (case k1 => k_asm); (case k2 => k_asm); (case x1 => k_in); (case x2 => exact Top.keeps (by assumption) (Fr.keep (by k_asm))); (case x3 => is_list); (case x4 => l_ints); (case x5 => (first | assumption | omega)); (case d1 => exact Nat.le_of_ble_eq_true rfl); (case d2 => exact Nat.le_of_ble_eq_true rfl)); (intro l' vs' n' h' tk' F' N' ne' i'); (try k_sweep)) | walk1 | (dsimp only; walk1)))
      (first | refine hRq2 _ _ ?_ | refine hRq _ _ ?_)
      dsimp only [TurnPost]
      refine TurnEnd.one F2 N2 hoff (by kst_all) (by intro z h2 h3; simp only [List.contains_cons, List.contains_nil, Bool.or_false, Bool.or_eq_false_iff, beq_eq_false_iff_ne, ne_eq] at h3; (try simp only [List.forall_mem_cons, List.not_mem_nil, false_implies, implies_true, and_true, ne_eq] at h2); simp [h2, h3, mapB, kstB]) ?_
      have e : ((ys.length : Int) - 0).toNat = ys.length := by omega
      rw [e] at hI2
      exact hI2
  · rintro ⟨ws, n⟩ u h tk hI F' N'
    change IntsAre ws _ at hI
    change Fr s.heap L h _ at F'
    change News s.heap L h [(_, listOf _ n)] at N'
    have hlen : (timesOut p xs ys ((xs.length : Int) - 0).toNat Z).length < 1000 := by rw [timesOut_length, hZl]; omega
    dsimp only
    (repeat' (first | (k_here; (with_reducible show wpAny _ _ (call (Value.ref 141) [Value.ref _]) _ _ _); k_dflt (refine' use_L (lawcut_ok ?x1 ?x2 ?x3 ?x4 ?x5) ?k1 ?k2 ?_ rfl ?d1 ?d2; (case k1 => k_asm); (case k2 => k_asm); (case x1 => k_in); (case x2 => exact Top.keeps (by assumption) (Fr.keep (by k_asm))); (case x3 => is_list); (case x4 => l_ints); (case x5 => (first | assumption | omega)); (case d1 => exact Nat.le_of_ble_eq_true rfl); (case d2 => exact Nat.le_of_ble_eq_true rfl)); (intro l' vs' n' h' tk' F' N' ne' i'); (try k_sweep)) | walk1 | (dsimp only; walk1)))
    rename News _ _ _ _ => N9
    rename Fr _ _ _ _ => F9
    rename IntsAre _ (trimI _) => i9
    have e : ((xs.length : Int) - 0).toNat = xs.length := by omega
    rw [e] at i9
    exact hQ _ _ _ F9.keep (NewL.of N9 (.head _) (by unfold timesI; rw [hZ]; exact i9))
end

noncomputable def aftI (p n : Int) : Nat → Int
  | 0 => n
  | i + 1 => Int.fdiv (aftI p n i) p
noncomputable def digsI (p n : Int) : Nat → List Int
  | 0 => []
  | i + 1 => digsI p n i ++ [Int.fmod (aftI p n i) p]
noncomputable def countedI (p n : Int) (size : Nat) : List Int := digsI p n size ++ [1]
theorem aftI_bd {p n : Int} (hp : 0 < p) (h : 0 ≤ n ∧ n ≤ 1000) : ∀ i, 0 ≤ aftI p n i ∧ aftI p n i ≤ 1000
  | 0 => h
  | i + 1 => by
    have ih := aftI_bd hp h i
    rw [aftI, Int.fdiv_eq_ediv_of_nonneg _ (by omega)]
    refine ⟨Int.ediv_nonneg ih.1 (by omega), Int.le_trans (Int.ediv_le_self _ ih.1) ih.2⟩
theorem digsI_length {p n : Int} : ∀ i, (digsI p n i).length = i
  | 0 => rfl
  | i + 1 => by rw [digsI, List.length_append, digsI_length]; rfl
noncomputable abbrev NS := VN × Int × Tok
section


set_option maxHeartbeats 4000000 in
theorem counted_ok : ∀ {w : World} {mean : ExcName → Option Value} {mg mb : Str → Option Value} {s : Shared} {p n k : Int} {tp tn tk : Tok}
    (_ : (hd.heap_39 w.params).In s.heap) (_ : Top hd.view_39 (looseW hd.view_39 []) mean mg mb s.heap)
    (_ : (p = 2 ∨ p = 3 ∨ p = 5)) (_ : 0 ≤ n ∧ n ≤ 1000) (_ : 0 ≤ k ∧ k ≤ 10), Fn w 0 160 s [.int n tn, .int k tk, .int p tp] (NewL s.heap (countedI p n k.toNat)) := by
  intro w mean mg mb s p n k tp tn tk X T h1 h2 h3
  intro Q E hQ
  refine wpAny_call ?_
  refine enter (binds := [(Str.ofString "number", .int n tn), (Str.ofString "size", .int k tk), (Str.ofString "p", .int p tp)]) (by assumption) (by assumption) (by k_is) (by k_is) (by decide) (BindsTo.of_eq rfl) (locs rfl) ?_ (by decide) rfl rfl rfl
  intro L h₁ F N
  k_fold
  have hp0 : p ≠ 0 := by omega
  have hpp : 0 < p := by omega
  (repeat' (first | walk1 | (dsimp only; walk1)))
  unfold Halt
  refine For_turns (by assumption) ?_
  (repeat' (first | walk1 | (dsimp only; walk1)))
  unfold Halt
  rename News _ _ _ _ => N9
  rename Fr _ _ _ _ => F9
  refine for_range (fun c : NS => led1 _ c.1) (fun c => [(Str.ofString "number", .int c.2.1 c.2.2)]) [Str.ofString "turn"] (fun i c => IntsAre c.1.1 (digsI p n i) ∧ c.2.1 = aftI p n i) (([], 0), n, tn) rfl (by assumption) (small_one (by omega) (by omega) (by omega) (by omega)) (rangeSize_nat _ _) rfl rfl F9 N9 (by kst_all) ⟨.nil, rfl⟩ ?_ ?_
  · rintro c0 i t u h tk own hi hoff hP0 F' N' Rq hRq
    obtain ⟨⟨ws, c⟩, m, tm⟩ := c0
    try dsimp only at hP0
    obtain ⟨hI, hm⟩ := hP0
    change OwnOff own [_] at hoff
    change IntsAre ws _ at hI
    try dsimp only at hm
    change Fr s.heap L h _ at F'
    change News s.heap L h ((_, listOf _ c) :: own) at N'
    have hb := aftI_bd hpp h2 i
    rw [← hm] at hb
    have hz : ws.toArray.size ≤ sizeLine := by
      have := hI.length
      rw [digsI_length] at this
      rw [PySem.sizeLine_eq, List.size_toArray, this]; omega
    (repeat' (first | walk1 | (dsimp only; walk1)))
    (first | refine hRq2 _ _ ?_ | refine hRq _ _ ?_)
    dsimp only [TurnPost]
    rename News _ _ _ _ => N7
    rename Fr _ _ _ _ => F7
    simp only [List.push_toArray] at N7
    refine' TurnEnd.intro ((ws ++ [.int (Int.fmod m p) _], c + 1), Int.fdiv m p, _) F7 N7 (fun q hq => by rw [List.mem_singleton.mp hq]; exact .head _) (fun q hq => .tail _ hq) hoff ?hk (by intro z h2 h3; simp only [List.contains_cons, List.contains_nil, Bool.or_false, Bool.or_eq_false_iff, beq_eq_false_iff_ne, ne_eq] at h3; (try simp only [List.forall_mem_cons, List.not_mem_nil, false_implies, implies_true, and_true, ne_eq] at h2); simp [h2, h3, mapB, kstB]) ⟨?_, ?_⟩
    (case hk => kst_all)
    · dsimp only
      rw [digsI, ← hm]
      exact IntsAre.append hI (.cons _ _ .nil)
    · dsimp only
      rw [aftI, ← hm]
  · rintro ⟨⟨ws, c⟩, m, tm⟩ u h tk ⟨hI, hm⟩ F' N'
    change IntsAre ws _ at hI
    change Fr s.heap L h _ at F'
    change News s.heap L h [(_, listOf _ c)] at N'
    have e : (k - 0).toNat = k.toNat := by omega
    rw [e] at hI
    have hl := digsI_length (p := p) (n := n) k.toNat
    dsimp only
    (repeat' (first | walk1 | (dsimp only; walk1)))
    rename News _ _ _ _ => N9
    rename Fr _ _ _ _ => F9
    exact hQ _ _ _ F9.keep (NewL.of N9 (.head _) (by assumption))
end
end
theorem top_off_F14 : True := by
  w_top off
  trivial

section
set_option maxRecDepth 100000
set_option linter.unusedVariables false
set_option linter.unusedSimpArgs false
open PySem PySem.W PySem.Calls PyProof.Rows PySem.Spec
theorem fill_F14 : PySem.Challenge.rw_nn0250_01 = PySem.Challenge.rw_nn0250_01 ∧ hd.heap_39 = hd.heap_39 := by
  k_fill
  exact ⟨rfl, rfl⟩

noncomputable def leftStep (p : Int) (b F : List Int) : List Int :=
  trimI ((List.range F.length).map fun j => Int.fmod (F.getD j 0 - (if F.length - b.length ≤ j then F.getD (F.length - 1) 0 * b.getD (j - (F.length - b.length)) 0 else 0)) p)
noncomputable def leftRun (p : Int) (b : List Int) : Nat → List Int → List Int
  | 0, F => F
  | k + 1, F => if b.length ≤ F.length then leftRun p b k (leftStep p b F) else F
noncomputable def leftI (p : Int) (a b : List Int) : List Int := leftRun p b 20 (trimI a)
theorem leftStep_lt {p : Int} {b F : List Int} (hb : 0 < b.length) (h1 : b.getD (b.length - 1) 0 = 1) (hF : b.length ≤ F.length) : (leftStep p b F).length < F.length := by
  have hl : ((List.range F.length).map fun j => Int.fmod (F.getD j 0 - (if F.length - b.length ≤ j then F.getD (F.length - 1) 0 * b.getD (j - (F.length - b.length)) 0 else 0)) p).length = F.length := by rw [List.length_map, List.length_range]
  unfold leftStep
  rw [trimI_drop]
  · refine Nat.lt_of_le_of_lt (trimI_length _) ?_
    rw [List.length_dropLast, hl]; omega
  · rw [hl, List.getD_eq_getElem?_getD, List.getElem?_map, List.getElem?_range (by omega)]
    show Int.fmod (F.getD (F.length - 1) 0 - (if F.length - b.length ≤ F.length - 1 then F.getD (F.length - 1) 0 * b.getD (F.length - 1 - (F.length - b.length)) 0 else 0)) p = 0
    rw [if_pos (by omega), show F.length - 1 - (F.length - b.length) = b.length - 1 by omega, h1, Int.mul_one, Int.sub_self, Int.zero_fmod]
theorem Po.left {p : Int} {b F : List Int} (hp : p = 2 ∨ p = 3 ∨ p = 5) (hF : Po p F) : Po p (leftStep p b F) :=
  Pn.trim (pos_of hp) (Rg.fmod_map (pos_of hp) _ _) (by rw [List.length_map, List.length_range]; exact hF.len)
theorem mem_mid5 {a b c d e : Addr × Obj} : ∀ q ∈ [b, c, d, e, a], q ∈ [a, b, c, d, e] := fun q hq => by
  simp only [List.mem_cons, List.not_mem_nil, or_false] at hq ⊢
  rcases hq with h | h | h | h | h <;> simp [h]
theorem mem_mid7 {a b c d x y z : Addr × Obj} {r : List (Addr × Obj)} : ∀ q ∈ a :: b :: c :: d :: x :: y :: z :: r, q ∈ x :: y :: z :: a :: b :: c :: d :: r := List.forall_mem_cons.mpr ⟨.tail _ (.tail _ (.tail _ (.head _))), List.forall_mem_cons.mpr ⟨.tail _ (.tail _ (.tail _ (.tail _ (.head _)))), List.forall_mem_cons.mpr ⟨.tail _ (.tail _ (.tail _ (.tail _ (.tail _ (.head _))))), List.forall_mem_cons.mpr ⟨.tail _ (.tail _ (.tail _ (.tail _ (.tail _ (.tail _ (.head _)))))), List.forall_mem_cons.mpr ⟨.head _, List.forall_mem_cons.mpr ⟨.tail _ (.head _), List.forall_mem_cons.mpr ⟨.tail _ (.tail _ (.head _)), fun q hq => .tail _ (.tail _ (.tail _ (.tail _ (.tail _ (.tail _ (.tail _ (hq)))))))⟩⟩⟩⟩⟩⟩⟩
structure LS where
  fa : Addr
  vs : List Value
  fn : Nat
  o3 : Obj
  o4 : Obj
  led : List (Addr × Obj)
  xs : List Int
  k : Nat
section


set_option maxHeartbeats 4000000 in
theorem lawleft_ok : ∀ {w : World} {mean : ExcName → Option Value} {mg mb : Str → Option Value} {s : Shared} {a b : Addr} {us vs : List Value} {xs ys : List Int} {p : Int} {tp : Tok}
    (_ : (hd.heap_39 w.params).In s.heap) (_ : Top hd.view_39 (looseW hd.view_39 []) mean mg mb s.heap)
    (_ : s.heap.IsList a us.toArray) (_ : IntsAre us xs) (_ : s.heap.IsList b vs.toArray) (_ : IntsAre vs ys) (_ : (p = 2 ∨ p = 3 ∨ p = 5)) (_ : Po p xs) (_ : Po p ys) (_ : 0 < ys.length) (_ : ys.getD (ys.length - 1) 0 = 1), Fn w 1 153 s [.ref a, .ref b, .int p tp] (NewL s.heap (leftI p xs ys)) := by
  intro w mean mg mb s a b us vs xs ys p tp X T h1 h2 h3 h4 h5 h6 h7 h8 h9
  intro Q E hQ
  refine wpAny_call ?_
  refine enterC (binds := [(Str.ofString "a", .ref a), (Str.ofString "b", .ref b), (Str.ofString "p", .int p tp)]) (by assumption) (by assumption) (by k_is) (by k_is) (by decide) (BindsTo.of_eq rfl) rfl (by decide) ?_ rfl rfl rfl
  intro L h₁ tk₁ cells F N X0
  k_fold
  have hl1 := h6.len
  have hl2 := h7.len
  have hp0 : p ≠ 0 := by omega
  have hb2 := h7.b100 h5
  obtain ⟨o1, o2, o3, o4, he, d1, d2, d3, d4⟩ := CellsAre.four X0
  subst he
  replace d1 : o1.data = .cell none := d1
  replace d2 : o2.data = .cell none := d2
  replace d3 : o3.data = .cell (some (.int p tp)) := d3
  replace d4 : o4.data = .cell (some (.ref b)) := d4
  clear X0
  (repeat' (first | (k_here; (with_reducible show wpAny _ _ (call (Value.ref 141) [Value.ref _]) _ _ _); k_dflt (refine' use_L (lawcut_ok ?x1 ?x2 ?x3 ?x4 ?x5) ?k1 ?k2 ?_ rfl ?d1 ?d2; (case k1 => k_asm); (case k2 => k_asm); (case x1 => k_in); (case x2 => exact Top.keeps (by assumption) (Fr.keep (by k_asm))); (case x3 => is_list); (case x4 => l_ints); (case x5 => (first | assumption | omega)); (case d1 => exact Nat.le_of_ble_eq_true rfl); (case d2 => exact Nat.le_of_ble_eq_true rfl)); (intro l' vs' n' h' tk' F' N' ne' i'); (try k_sweep)) | walk1 | (dsimp only; walk1)))
  unfold Halt
  rename News _ _ _ _ => N0
  rename Fr _ _ _ _ => F0
  rename IntsAre _ (trimI xs) => i0
  rename ∀ q ∈ ([(L + 1 + 1 + 1 + 1, o1), (L + 1 + 1 + 1, o2), (L + 1 + 1, o3), (L + 1, o4)] : List (Addr × Obj)), q.1 ≠ _ => hne0
  generalize hG : leftI p xs ys = G at hQ
  unfold leftI at hG
  have q0 : Po p (trimI xs) := Pn.trim (pos_of h5) h6.rg h6.len
  refine whileR (fun c : LS => (L + 1 + 1 + 1 + 1, c.o3) :: (L + 1 + 1 + 1, c.o4) :: (L + 1 + 1, o3) :: (L + 1, o4) :: c.led) (fun c => [(Str.ofString "found", .ref c.fa)]) (fun _ => True) []
    (fun c => IntsAre c.vs c.xs ∧ (c.fa, listOf c.vs.toArray c.fn) ∈ c.led ∧ (∀ q ∈ c.led, q.1 ≠ L + 1 + 1 + 1 + 1) ∧ (∀ q ∈ c.led, q.1 ≠ L + 1 + 1 + 1) ∧ (∃ v, c.o3.data = .cell v) ∧ (∃ v, c.o4.data = .cell v) ∧ Po p c.xs ∧ c.xs.length ≤ c.k ∧ leftRun p ys c.k c.xs = G) (fun c => c.xs.length)
    ⟨_, _, _, o1, o2, [_], trimI xs, 20⟩ F0 (News.sub N0 (mem_mid5 (a := _))) trivial (by kst_all) ⟨i0, .head _, ?n1, ?n2, ⟨_, d1⟩, ⟨_, d2⟩, q0, q0.len, hG⟩ ?_
  · exact fun q hq => by rw [List.mem_singleton.mp hq]; exact ne_of_news hne0 (.head _)
  · exact fun q hq => by rw [List.mem_singleton.mp hq]; exact ne_of_news hne0 (.tail _ (.head _))
  rintro c0 u h tk - hP0 F' N' Rq hRq
  obtain ⟨fa, vs, fn, o1, o2, led, xs, k⟩ := c0
  try dsimp only at hP0
  refine a5 hP0 (fun i1 hm n1 n2 hP1 => ?_)
  clear hP0
  refine a5 hP1 (fun hx4 hx5 q1 hk hG => ?_)
  clear hP1
  obtain ⟨v1, d1⟩ := hx4
  obtain ⟨v2, d2⟩ := hx5
  try dsimp only at F' N' i1 hm n1 n2 d1 d2 q1 hk hG
  have hlen := q1.len
  have hv := i1.length
  have hb1 := q1.b100 h5
  (repeat' (first | (k_here; (with_reducible show wpAny _ _ (call (Value.ref 141) [Value.ref _]) _ _ _); k_dflt (refine' use_L (lawcut_ok ?x1 ?x2 ?x3 ?x4 ?x5) ?k1 ?k2 ?_ rfl ?d1 ?d2; (case k1 => k_asm); (case k2 => k_asm); (case x1 => k_in); (case x2 => exact Top.keeps (by assumption) (Fr.keep (by k_asm))); (case x3 => is_list); (case x4 => l_ints); (case x5 => (first | assumption | omega)); (case d1 => exact Nat.le_of_ble_eq_true rfl); (case d2 => exact Nat.le_of_ble_eq_true rfl)); (intro l' vs' n' h' tk' F' N' ne' i'); (try k_sweep)) | walk1 | (dsimp only; walk1)))
  · unfold Halt
    rename News _ _ _ _ => N8
    rename Fr _ _ _ _ => F8
    have hge : ys.length ≤ xs.length := by omega
    have hb3 := hb1 (-1 + (xs.length : Int)).toNat
    refine comp_enum (by assumption) (by with_unfolding_all rfl) (by decide) (by rfl) (by decide) (by rfl) (by rfl) (by decide) ?_
    (repeat' (first | (k_here; (with_reducible show wpAny _ _ (call (Value.ref 141) [Value.ref _]) _ _ _); k_dflt (refine' use_L (lawcut_ok ?x1 ?x2 ?x3 ?x4 ?x5) ?k1 ?k2 ?_ rfl ?d1 ?d2; (case k1 => k_asm); (case k2 => k_asm); (case x1 => k_in); (case x2 => exact Top.keeps (by assumption) (Fr.keep (by k_asm))); (case x3 => is_list); (case x4 => l_ints); (case x5 => (first | assumption | omega)); (case d1 => exact Nat.le_of_ble_eq_true rfl); (case d2 => exact Nat.le_of_ble_eq_true rfl)); (intro l' vs' n' h' tk' F' N' ne' i'); (try k_sweep)) | walk1 | (dsimp only; walk1)))
    unfold Halt
    refine enum_src (fun i ws => IntsAre ws ((List.range i).map fun j => Int.fmod (xs.getD j 0 - (if xs.length - ys.length ≤ j then xs.getD (xs.length - 1) 0 * ys.getD (j - (xs.length - ys.length)) 0 else 0)) p)) rfl F8 N8 (by (repeat (first | assumption | exact List.Mem.head _ | refine List.mem_cons_of_mem _ ?_))) i1 (by rw [PySem.sizeLine_eq]; omega) .nil ?_ ?_
    · intro g i ws C oC D m₂ h tk own E' t t' hi hI hC ha hb F1 N1
      simp only [List.cons_append] at N1
      have hb4 := hb2 ((i : Int) - ((xs.length : Int) - ys.length)).toNat
      have e1 : (-1 + (xs.length : Int)).toNat = xs.length - 1 := by omega
      (repeat' (first | (k_here; (with_reducible show wpAny _ _ (call (Value.ref 141) [Value.ref _]) _ _ _); k_dflt (refine' use_L (lawcut_ok ?x1 ?x2 ?x3 ?x4 ?x5) ?k1 ?k2 ?_ rfl ?d1 ?d2; (case k1 => k_asm); (case k2 => k_asm); (case x1 => k_in); (case x2 => exact Top.keeps (by assumption) (Fr.keep (by k_asm))); (case x3 => is_list); (case x4 => l_ints); (case x5 => (first | assumption | omega)); (case d1 => exact Nat.le_of_ble_eq_true rfl); (case d2 => exact Nat.le_of_ble_eq_true rfl)); (intro l' vs' n' h' tk' F' N' ne' i'); (try k_sweep)) | walk1 | (dsimp only; walk1)))
      · have e2 : ((i : Int) - ((xs.length : Int) - ys.length)).toNat = i - (xs.length - ys.length) := by omega
        refine ElEnd.intro (by assumption) N1 (IntsAre.snoc hI ?_)
        show _ = Int.fmod (xs.getD i 0 - (if xs.length - ys.length ≤ i then xs.getD (xs.length - 1) 0 * ys.getD (i - (xs.length - ys.length)) 0 else 0)) p
        rw [if_pos (by omega), e1, e2]
      · refine ElEnd.intro (by assumption) N1 (IntsAre.snoc hI ?_)
        show _ = Int.fmod (xs.getD i 0 - (if xs.length - ys.length ≤ i then xs.getD (xs.length - 1) 0 * ys.getD (i - (xs.length - ys.length)) 0 else 0)) p
        rw [if_neg (by omega)]
    · intro D h tk ws F1 N1 hD hI
      have hst : leftStep p ys xs = trimI ((List.range xs.length).map fun j => Int.fmod (xs.getD j 0 - (if xs.length - ys.length ≤ j then xs.getD (xs.length - 1) 0 * ys.getD (j - (xs.length - ys.length)) 0 else 0)) p) := rfl
      have hMl : ((List.range xs.length).map fun j => Int.fmod (xs.getD j 0 - (if xs.length - ys.length ≤ j then xs.getD (xs.length - 1) 0 * ys.getD (j - (xs.length - ys.length)) 0 else 0)) p).length < 1000 := by rw [List.length_map, List.length_range]; omega
      generalize ((List.range xs.length).map fun j => Int.fmod (xs.getD j 0 - (if xs.length - ys.length ≤ j then xs.getD (xs.length - 1) 0 * ys.getD (j - (xs.length - ys.length)) 0 else 0)) p) = M at hI hst hMl
      (repeat' (first | (k_here; (with_reducible show wpAny _ _ (call (Value.ref 141) [Value.ref _]) _ _ _); k_dflt (refine' use_L (lawcut_ok ?x1 ?x2 ?x3 ?x4 ?x5) ?k1 ?k2 ?_ rfl ?d1 ?d2; (case k1 => k_asm); (case k2 => k_asm); (case x1 => k_in); (case x2 => exact Top.keeps (by assumption) (Fr.keep (by k_asm))); (case x3 => is_list); (case x4 => l_ints); (case x5 => (first | assumption | omega)); (case d1 => exact Nat.le_of_ble_eq_true rfl); (case d2 => exact Nat.le_of_ble_eq_true rfl)); (intro l' vs' n' h' tk' F' N' ne' i'); (try k_sweep)) | walk1 | (dsimp only; walk1)))
      refine hRq _ _ ?_
      dsimp only [KswPost]
      rename News _ _ _ _ => N9
      rename Fr _ _ _ _ => F9
      rename IntsAre _ (trimI M) => i9
      have hG' : leftRun p ys (k - 1) (leftStep p ys xs) = G := by
        obtain ⟨k, rfl⟩ : ∃ j, k = j + 1 := ⟨k - 1, by omega⟩
        rw [leftRun, if_pos hge] at hG
        exact hG
      have hlt := leftStep_lt (p := p) h8 h9 hge
      rw [← hst] at i9
      refine' ksw_end (c' := ⟨_, _, _, _, _, _ :: _ :: _ :: led, leftStep p ys xs, k - 1⟩) (F := F9) (N := N9) (hn := mem_mid7) trivial ?hk ?hr ⟨i9, .head _, ?m1, ?m2, ⟨_, by assumption⟩, ⟨_, by assumption⟩, Po.left h5 q1, ?hl, hG'⟩ hlt
      (case hk => kst_all)
      (case hr => exact (by intro z h2 h3; simp only [List.contains_cons, List.contains_nil, Bool.or_false, Bool.or_eq_false_iff, beq_eq_false_iff_ne, ne_eq] at h3; (try simp only [List.forall_mem_cons, List.not_mem_nil, false_implies, implies_true, and_true, ne_eq] at h2); simp [h2, h3, mapB, kstB]))
      (case m1 => refine List.forall_mem_cons.mpr ⟨by dsimp only; (first | exact ne_of_news (by assumption) (by (repeat (first | assumption | exact List.Mem.head _ | refine List.mem_cons_of_mem _ ?_))) | omega | (refine neN ?_; (try dsimp only); omega)), List.forall_mem_cons.mpr ⟨by dsimp only; (first | exact ne_of_news (by assumption) (by (repeat (first | assumption | exact List.Mem.head _ | refine List.mem_cons_of_mem _ ?_))) | omega | (refine neN ?_; (try dsimp only); omega)), List.forall_mem_cons.mpr ⟨by dsimp only; (first | exact ne_of_news (by assumption) (by (repeat (first | assumption | exact List.Mem.head _ | refine List.mem_cons_of_mem _ ?_))) | omega | (refine neN ?_; (try dsimp only); omega)), n1⟩⟩⟩)
      (case m2 => refine List.forall_mem_cons.mpr ⟨by dsimp only; (first | exact ne_of_news (by assumption) (by (repeat (first | assumption | exact List.Mem.head _ | refine List.mem_cons_of_mem _ ?_))) | omega | (refine neN ?_; (try dsimp only); omega)), List.forall_mem_cons.mpr ⟨by dsimp only; (first | exact ne_of_news (by assumption) (by (repeat (first | assumption | exact List.Mem.head _ | refine List.mem_cons_of_mem _ ?_))) | omega | (refine neN ?_; (try dsimp only); omega)), List.forall_mem_cons.mpr ⟨by dsimp only; (first | exact ne_of_news (by assumption) (by (repeat (first | assumption | exact List.Mem.head _ | refine List.mem_cons_of_mem _ ?_))) | omega | (refine neN ?_; (try dsimp only); omega)), n2⟩⟩⟩)
      (case hl => dsimp only; omega)
  · have e : G = xs := by
      rw [← hG]
      cases k with
      | zero => rfl
      | succ k => rw [leftRun, if_neg (by omega)]
    rw [e] at hQ
    exact hQ _ _ _ F'.keep (NewL.of N' (.tail _ (.tail _ (.tail _ (.tail _ hm)))) i1)
end
end
theorem top_off_F15 : True := by
  w_top off
  trivial

section
set_option maxRecDepth 100000
set_option linter.unusedVariables false
set_option linter.unusedSimpArgs false
open PySem PySem.W PySem.Calls PyProof.Rows PySem.Spec
theorem fill_F15 : PySem.Challenge.rw_nn0250_01 = PySem.Challenge.rw_nn0250_01 ∧ hd.heap_39 = hd.heap_39 := by
  k_fill
  exact ⟨rfl, rfl⟩

noncomputable def fits (p : Int) (size : Nat) (row one : List Int) : Bool := decide (2 * ((one.length : Int) - 1) ≤ size) && decide (leftI p row one = [])
noncomputable def primesStep (p : Int) (size : Nat) (R : List (List Int)) (n : Nat) : List (List Int) := if R.filter (fits p size (countedI p n size)) = [] then R ++ [countedI p n size] else R
noncomputable def primesIn (p : Int) (size : Nat) (R : List (List Int)) : Nat → List (List Int)
  | 0 => R
  | j + 1 => primesStep p size (primesIn p size R j) j
noncomputable def primesOut (p : Nat) : Nat → List (List Int)
  | 0 => []
  | i + 1 => primesIn p (i + 1) (primesOut p i) (p ^ (i + 1))
structure Mon (p : Int) (r : List Int) : Prop where
  po : Po p r
  pos : 0 < r.length
  last : r.getD (r.length - 1) 0 = 1
theorem counted_mon {p n : Int} {k : Nat} (hp : p = 2 ∨ p = 3 ∨ p = 5) (hk : k ≤ 10) : Mon p (countedI p n k) := by
  have hl : (countedI p n k).length = k + 1 := by rw [countedI, List.length_append, digsI_length]; rfl
  have hlast : (countedI p n k).getD ((countedI p n k).length - 1) 0 = 1 := by
    rw [hl, countedI, List.getD_eq_getElem?_getD, List.getElem?_append_right (by rw [digsI_length]; omega), digsI_length]
    simp
  have hr : ∀ k, Rg p (digsI p n k ++ [1]) := fun k => by
    refine Rg.of_mem (pos_of hp) fun x hx => ?_
    rcases List.mem_append.mp hx with hx | hx
    · clear hl hlast
      induction k with
      | zero => cases hx
      | succ k ih =>
        rw [digsI] at hx
        rcases List.mem_append.mp hx with hx | hx
        · exact ih (List.mem_append_left _ hx) hx
        · rw [List.mem_singleton.mp hx]; exact fmod_rg _ (pos_of hp)
    · rw [List.mem_singleton.mp hx]; omega
  exact ⟨⟨hr k, fun _ => by rw [hlast]; decide, by rw [hl]; omega⟩, by rw [hl]; omega, hlast⟩
theorem primesStep_mon {p : Int} {size n : Nat} {R : List (List Int)} (hp : p = 2 ∨ p = 3 ∨ p = 5) (hk : size ≤ 10) (h : ∀ r ∈ R, Mon p r) : ∀ r ∈ primesStep p size R n, Mon p r := by
  unfold primesStep
  split
  · intro r hr
    rcases List.mem_append.mp hr with hr | hr
    · exact h r hr
    · rw [List.mem_singleton.mp hr]; exact counted_mon hp hk
  · exact h
theorem primesIn_mon {p : Int} {size : Nat} {R : List (List Int)} (hp : p = 2 ∨ p = 3 ∨ p = 5) (hk : size ≤ 10) (h : ∀ r ∈ R, Mon p r) : ∀ {j : Nat}, ∀ r ∈ primesIn p size R j, Mon p r
  | 0 => h
  | j + 1 => primesStep_mon hp hk (primesIn_mon hp hk h)
theorem primesIn_len {p : Int} {size : Nat} {R : List (List Int)} : ∀ {j : Nat}, (primesIn p size R j).length ≤ R.length + j
  | 0 => Nat.le_refl _
  | j + 1 => by
    have ih := primesIn_len (p := p) (size := size) (R := R) (j := j)
    rw [primesIn, primesStep]
    split
    · rw [List.length_append, List.length_singleton]; omega
    · omega
theorem filter_take {α : Type} {R : List α} {f : α → Bool} {i : Nat} {x : α} (h : R[i]? = some x) : (R.take (i + 1)).filter f = (R.take i).filter f ++ (if f x = true then [x] else []) := by
  rw [List.take_add_one, h, List.filter_append]
  simp [List.filter_cons]
theorem off_more {own led l2 : List (Addr × Obj)} {A B C D x : Addr} {o : Obj} (h : OwnOff own (A :: B :: C :: D :: (led ++ l2).map (·.1))) (hr : ∀ q ∈ own, q.1 ≠ x) : OwnOff own (A :: B :: C :: D :: ((x, o) :: led ++ l2).map (·.1)) := fun q hq b hb => by
  rcases List.mem_cons.mp hb with rfl | hb
  · exact h q hq _ (.head _)
  rcases List.mem_cons.mp hb with rfl | hb
  · exact h q hq _ (.tail _ (.head _))
  rcases List.mem_cons.mp hb with rfl | hb
  · exact h q hq _ (.tail _ (.tail _ (.head _)))
  rcases List.mem_cons.mp hb with rfl | hb
  · exact h q hq _ (.tail _ (.tail _ (.tail _ (.head _))))
  rcases List.mem_cons.mp hb with rfl | hb
  · exact hr q hq
  · exact h q hq _ (.tail _ (.tail _ (.tail _ (.tail _ hb))))
theorem off_four {own led : List (Addr × Obj)} {A B C D : Addr} {l : List Addr} (h : OwnOff own (A :: B :: C :: D :: l)) (g : OwnOff own (led.map (·.1))) : OwnOff own (A :: B :: C :: D :: led.map (·.1)) := fun q hq b hb => by
  rcases List.mem_cons.mp hb with rfl | hb
  · exact h q hq _ (.head _)
  rcases List.mem_cons.mp hb with rfl | hb
  · exact h q hq _ (.tail _ (.head _))
  rcases List.mem_cons.mp hb with rfl | hb
  · exact h q hq _ (.tail _ (.tail _ (.head _)))
  rcases List.mem_cons.mp hb with rfl | hb
  · exact h q hq _ (.tail _ (.tail _ (.tail _ (.head _))))
  · exact g q hq _ hb
theorem mem_A {a b r f c d e : Addr × Obj} {led own own2 : List (Addr × Obj)} : ∀ q ∈ f :: c :: d :: e :: (r :: led ++ own), q ∈ a :: b :: r :: f :: c :: d :: e :: (led ++ own ++ own2) := List.forall_mem_cons.mpr ⟨.tail _ (.tail _ (.tail _ (.head _))), List.forall_mem_cons.mpr ⟨.tail _ (.tail _ (.tail _ (.tail _ (.head _)))), List.forall_mem_cons.mpr ⟨.tail _ (.tail _ (.tail _ (.tail _ (.tail _ (.head _))))), List.forall_mem_cons.mpr ⟨.tail _ (.tail _ (.tail _ (.tail _ (.tail _ (.tail _ (.head _)))))), List.forall_mem_cons.mpr ⟨.tail _ (.tail _ (.head _)), fun q hq => .tail _ (.tail _ (.tail _ (.tail _ (.tail _ (.tail _ (.tail _ (List.mem_append_left _ hq)))))))⟩⟩⟩⟩⟩
theorem mem_B {a b r f c d e : Addr × Obj} {led own own2 : List (Addr × Obj)} : ∀ q ∈ f :: c :: d :: e :: (led ++ own), q ∈ a :: b :: r :: f :: c :: d :: e :: (led ++ own ++ own2) := List.forall_mem_cons.mpr ⟨.tail _ (.tail _ (.tail _ (.head _))), List.forall_mem_cons.mpr ⟨.tail _ (.tail _ (.tail _ (.tail _ (.head _)))), List.forall_mem_cons.mpr ⟨.tail _ (.tail _ (.tail _ (.tail _ (.tail _ (.head _))))), List.forall_mem_cons.mpr ⟨.tail _ (.tail _ (.tail _ (.tail _ (.tail _ (.tail _ (.head _)))))), fun q hq => .tail _ (.tail _ (.tail _ (.tail _ (.tail _ (.tail _ (.tail _ (List.mem_append_left _ hq)))))))⟩⟩⟩⟩
theorem mem_C {f c d e : Addr × Obj} {led own : List (Addr × Obj)} : ∀ q ∈ f :: c :: d :: e :: led, q ∈ f :: c :: d :: e :: (led ++ own) := List.forall_mem_cons.mpr ⟨.head _, List.forall_mem_cons.mpr ⟨.tail _ (.head _), List.forall_mem_cons.mpr ⟨.tail _ (.tail _ (.head _)), List.forall_mem_cons.mpr ⟨.tail _ (.tail _ (.tail _ (.head _))), fun q hq => .tail _ (.tail _ (.tail _ (.tail _ (List.mem_append_left _ hq))))⟩⟩⟩⟩
structure RS where
  vs : List Value
  fn : Nat
  o1 : Obj
  o2 : Obj
  led : List (Addr × Obj)
noncomputable abbrev rled (fa L : Addr) (o3 : Obj) (c : RS) : List (Addr × Obj) := (fa, listOf c.vs.toArray c.fn) :: (L + 1 + 1 + 1, c.o1) :: (L + 1 + 1, c.o2) :: (L + 1, o3) :: c.led
theorem head_addr {h₀ h : Heap} {L a : Addr} {o : Obj} {r : List (Addr × Obj)} (N : News h₀ L h ((a, o) :: r)) : ∃ fa, fa = a := ⟨a, rfl⟩
noncomputable def RP (fa L : Addr) (R : List (List Int)) (c : RS) : Prop :=
  RowsIn c.led c.vs R ∧ (∀ q ∈ c.led, q.1 ≠ fa) ∧ (∀ q ∈ c.led, q.1 ≠ L + 1 + 1 + 1) ∧ (∀ q ∈ c.led, q.1 ≠ L + 1 + 1) ∧ (∃ v, c.o1.data = .cell v) ∧ (∃ v, c.o2.data = .cell v)
theorem all_app {a b : List (Addr × Obj)} {x : Addr} (h : ∀ q ∈ a, q.1 ≠ x) (g : ∀ q ∈ b, q.1 ≠ x) : ∀ q ∈ a ++ b, q.1 ≠ x := fun q hq => (List.mem_append.mp hq).elim (h q) (g q)
theorem off_one {own : List (Addr × Obj)} {l : List Addr} {x : Addr} (h : OwnOff own l) (m : x ∈ l) : ∀ q ∈ own, q.1 ≠ x := fun q hq => h q hq x m
theorem pow_bd {p : Int} {i : Nat} (hp : p = 2 ∨ p = 3 ∨ p = 5) (hi : i ≤ 3) : 0 ≤ p ^ i ∧ p ^ i ≤ 125 ∧ (p ^ i).toNat = p.toNat ^ i := by
  have : i = 0 ∨ i = 1 ∨ i = 2 ∨ i = 3 := by omega
  rcases hp with rfl | rfl | rfl <;> rcases this with rfl | rfl | rfl | rfl <;> decide
theorem primesOut_facts {p : Int} (hp : p = 2 ∨ p = 3 ∨ p = 5) : ∀ {i : Nat}, i ≤ 3 → (∀ r ∈ primesOut p.toNat i, Mon p r) ∧ (primesOut p.toNat i).length ≤ 125 * i
  | 0, _ => ⟨(fun r h => by cases h), Nat.le_refl _⟩
  | i + 1, hi => by
    have ih := primesOut_facts hp (i := i) (by omega)
    have e : ((p.toNat : Nat) : Int) = p := by omega
    have hb := pow_bd hp hi
    refine ⟨?_, ?_⟩
    · rw [primesOut, e]
      exact primesIn_mon hp (by omega) ih.1
    · rw [primesOut, e]
      refine Nat.le_trans primesIn_len ?_
      have : p.toNat ^ (i + 1) ≤ 125 := by rw [← hb.2.2]; omega
      omega
section
local macro_rules | `(tactic| walk_at "compareOp Eq ref ref") => `(tactic| first | refine ke_eq_ints (by is_list) (by is_list) (by l_ints) (by l_ints) (by ke_room) ?_ | refine halt ?_)


set_option maxHeartbeats 4000000 in
theorem primes_ok : ∀ {w : World} {mean : ExcName → Option Value} {mg mb : Str → Option Value} {s : Shared} {p k : Int} {tp tk : Tok}
    (_ : (hd.heap_39 w.params).In s.heap) (_ : Top hd.view_39 (looseW hd.view_39 []) mean mg mb s.heap)
    (_ : (p = 2 ∨ p = 3 ∨ p = 5)) (_ : 0 ≤ k ∧ k ≤ 3), Fn w 2 165 s [.int p tp, .int k tk] (fun h v => ∃ l vs n ext, v = .ref l ∧ (∀ q ∈ ext, s.heap.get? q.1 = none ∧ h.get? q.1 = some q.2) ∧ s.heap.get? l = none ∧ h.get? l = some (listOf (List.toArray vs) n) ∧ (∀ q ∈ ext, q.1 ≠ l) ∧ RowsIn ext vs (primesOut p.toNat k.toNat)) := by
  intro w mean mg mb s p k tp tk X T h1 h2
  intro Q E hQ
  refine wpAny_call ?_
  refine enterC (binds := [(Str.ofString "p", .int p tp), (Str.ofString "most", .int k tk)]) (by assumption) (by assumption) (by k_is) (by k_is) (by decide) (BindsTo.of_eq rfl) rfl (by decide) ?_ rfl rfl rfl
  intro L h₁ tk₁ cells F N X0
  k_fold
  have hp0 : p ≠ 0 := by omega
  obtain ⟨o1, o2, o3, he, d1, d2, d3⟩ := CellsAre.three X0
  subst he
  replace d1 : o1.data = .cell none := d1
  replace d2 : o2.data = .cell none := d2
  replace d3 : o3.data = .cell (some (.int p tp)) := d3
  clear X0
  (repeat' (first | (k_here; (with_reducible show wpAny _ _ (call (Value.ref 160) [Value.int _ _, Value.int _ _, Value.int _ _]) _ _ _); k_dflt (refine' use_L (counted_ok ?x1 ?x2 ?x3 ?x4 ?x5) ?k1 ?k2 ?_ rfl ?d1 ?d2; (case k1 => k_asm); (case k2 => k_asm); (case x1 => k_in); (case x2 => exact Top.keeps (by assumption) (Fr.keep (by k_asm))); (case x3 => (first | assumption | omega)); (case x4 => (first | assumption | omega)); (case x5 => (first | assumption | omega)); (case d1 => exact Nat.le_of_ble_eq_true rfl); (case d2 => exact Nat.le_of_ble_eq_true rfl)); (intro l' vs' n' h' tk' F' N' ne' i'); (try k_sweep)) | (k_here; (with_reducible show wpAny _ _ (call (Value.ref 153) [Value.ref _, Value.ref _, Value.int _ _]) _ _ _); k_dflt (refine' use_L (lawleft_ok ?x1 ?x2 ?x3 ?x4 ?x5 ?x6 ?x7 ?x8 ?x9 ?x10 ?x11) ?k1 ?k2 ?_ rfl ?d1 ?d2; (case k1 => k_asm); (case k2 => k_asm); (case x1 => k_in); (case x2 => exact Top.keeps (by assumption) (Fr.keep (by k_asm))); (case x3 => is_list); (case x4 => l_ints); (case x5 => is_list); (case x6 => l_ints); (case x7 => (first | assumption | omega)); (case x8 => (first | assumption | omega)); (case x9 => (first | assumption | omega)); (case x10 => (first | assumption | omega)); (case x11 => (first | assumption | omega)); (case d1 => exact Nat.le_of_ble_eq_true rfl); (case d2 => exact Nat.le_of_ble_eq_true rfl)); (intro l' vs' n' h' tk' F' N' ne' i'); (try k_sweep)) | walk1 | (dsimp only; walk1)))
  unfold Halt
  refine For_turns (by assumption) ?_
  (repeat' (first | (k_here; (with_reducible show wpAny _ _ (call (Value.ref 160) [Value.int _ _, Value.int _ _, Value.int _ _]) _ _ _); k_dflt (refine' use_L (counted_ok ?x1 ?x2 ?x3 ?x4 ?x5) ?k1 ?k2 ?_ rfl ?d1 ?d2; (case k1 => k_asm); (case k2 => k_asm); (case x1 => k_in); (case x2 => exact Top.keeps (by assumption) (Fr.keep (by k_asm))); (case x3 => (first | assumption | omega)); (case x4 => (first | assumption | omega)); (case x5 => (first | assumption | omega)); (case d1 => exact Nat.le_of_ble_eq_true rfl); (case d2 => exact Nat.le_of_ble_eq_true rfl)); (intro l' vs' n' h' tk' F' N' ne' i'); (try k_sweep)) | (k_here; (with_reducible show wpAny _ _ (call (Value.ref 153) [Value.ref _, Value.ref _, Value.int _ _]) _ _ _); k_dflt (refine' use_L (lawleft_ok ?x1 ?x2 ?x3 ?x4 ?x5 ?x6 ?x7 ?x8 ?x9 ?x10 ?x11) ?k1 ?k2 ?_ rfl ?d1 ?d2; (case k1 => k_asm); (case k2 => k_asm); (case x1 => k_in); (case x2 => exact Top.keeps (by assumption) (Fr.keep (by k_asm))); (case x3 => is_list); (case x4 => l_ints); (case x5 => is_list); (case x6 => l_ints); (case x7 => (first | assumption | omega)); (case x8 => (first | assumption | omega)); (case x9 => (first | assumption | omega)); (case x10 => (first | assumption | omega)); (case x11 => (first | assumption | omega)); (case d1 => exact Nat.le_of_ble_eq_true rfl); (case d2 => exact Nat.le_of_ble_eq_true rfl)); (intro l' vs' n' h' tk' F' N' ne' i'); (try k_sweep)) | walk1 | (dsimp only; walk1)))
  unfold Halt
  rename News _ _ _ _ => N0
  rename Fr _ _ _ _ => F0
  obtain ⟨fa, hfa⟩ := head_addr N0
  subst hfa
  have epn : ((p.toNat : Nat) : Int) = p := by omega
  refine for_rangeA (rled fa L o3) (fun _ => []) [Str.ofString "number"] (fun i c => RP fa L (primesOut p.toNat i) c) ⟨[], 0, o1, o2, []⟩ rfl (by assumption) (small_one (by omega) (by omega) (by omega) (by omega)) (rangeSize_nat _ _) F0 N0 (by kst_all)
    ⟨.nil, List.forall_mem_nil _, List.forall_mem_nil _, List.forall_mem_nil _, ⟨_, d1⟩, ⟨_, d2⟩⟩ ?_ ?_
  · rintro c0 i t u h tk own hi hoff hP0 F' N' Rq hRq
    obtain ⟨vs, fn, o1, o2, led⟩ := c0
    try dsimp only at hP0
    refine a5 hP0 (fun hR g1 g2 g3 hP1 => ?_)
    clear hP0
    obtain ⟨hx4, hx5⟩ := hP1
    obtain ⟨v1, d1⟩ := hx4
    obtain ⟨v2, d2⟩ := hx5
    try dsimp only at hR g1 g2 g3 d1 d2
    change OwnOff own (_ :: _ :: _ :: _ :: led.map _) at hoff
    have hi3 : i + 1 ≤ 3 := by omega
    change Fr s.heap L h _ at F'
    replace N' : News s.heap L h ((fa, listOf vs.toArray fn) :: (L + 1 + 1 + 1, o1) :: (L + 1 + 1, o2) :: (L + 1, o3) :: (led ++ own)) := N'
    have f1 := all_app g1 (off_one hoff (.head _))
    have f2 := all_app g2 (off_one hoff (.tail _ (.head _)))
    have f3 := all_app g3 (off_one hoff (.tail _ (.tail _ (.head _))))
    have ei : (1 : Int) + (i : Int) * 1 = ((i + 1 : Nat) : Int) := by omega
    rw [ei]
    have hpw := pow_bd h1 (i := (((i + 1 : Nat) : Int)).toNat) (by omega)
    have hrow := primesOut_facts h1 (i := i) (by omega)
    (repeat' (first | (k_here; (with_reducible show wpAny _ _ (call (Value.ref 160) [Value.int _ _, Value.int _ _, Value.int _ _]) _ _ _); k_dflt (refine' use_L (counted_ok ?x1 ?x2 ?x3 ?x4 ?x5) ?k1 ?k2 ?_ rfl ?d1 ?d2; (case k1 => k_asm); (case k2 => k_asm); (case x1 => k_in); (case x2 => exact Top.keeps (by assumption) (Fr.keep (by k_asm))); (case x3 => (first | assumption | omega)); (case x4 => (first | assumption | omega)); (case x5 => (first | assumption | omega)); (case d1 => exact Nat.le_of_ble_eq_true rfl); (case d2 => exact Nat.le_of_ble_eq_true rfl)); (intro l' vs' n' h' tk' F' N' ne' i'); (try k_sweep)) | (k_here; (with_reducible show wpAny _ _ (call (Value.ref 153) [Value.ref _, Value.ref _, Value.int _ _]) _ _ _); k_dflt (refine' use_L (lawleft_ok ?x1 ?x2 ?x3 ?x4 ?x5 ?x6 ?x7 ?x8 ?x9 ?x10 ?x11) ?k1 ?k2 ?_ rfl ?d1 ?d2; (case k1 => k_asm); (case k2 => k_asm); (case x1 => k_in); (case x2 => exact Top.keeps (by assumption) (Fr.keep (by k_asm))); (case x3 => is_list); (case x4 => l_ints); (case x5 => is_list); (case x6 => l_ints); (case x7 => (first | assumption | omega)); (case x8 => (first | assumption | omega)); (case x9 => (first | assumption | omega)); (case x10 => (first | assumption | omega)); (case x11 => (first | assumption | omega)); (case d1 => exact Nat.le_of_ble_eq_true rfl); (case d2 => exact Nat.le_of_ble_eq_true rfl)); (intro l' vs' n' h' tk' F' N' ne' i'); (try k_sweep)) | walk1 | (dsimp only; walk1)))
    try unfold Halt
    refine For_turns (by assumption) ?_
    (repeat' (first | (k_here; (with_reducible show wpAny _ _ (call (Value.ref 160) [Value.int _ _, Value.int _ _, Value.int _ _]) _ _ _); k_dflt (refine' use_L (counted_ok ?x1 ?x2 ?x3 ?x4 ?x5) ?k1 ?k2 ?_ rfl ?d1 ?d2; (case k1 => k_asm); (case k2 => k_asm); (case x1 => k_in); (case x2 => exact Top.keeps (by assumption) (Fr.keep (by k_asm))); (case x3 => (first | assumption | omega)); (case x4 => (first | assumption | omega)); (case x5 => (first | assumption | omega)); (case d1 => exact Nat.le_of_ble_eq_true rfl); (case d2 => exact Nat.le_of_ble_eq_true rfl)); (intro l' vs' n' h' tk' F' N' ne' i'); (try k_sweep)) | (k_here; (with_reducible show wpAny _ _ (call (Value.ref 153) [Value.ref _, Value.ref _, Value.int _ _]) _ _ _); k_dflt (refine' use_L (lawleft_ok ?x1 ?x2 ?x3 ?x4 ?x5 ?x6 ?x7 ?x8 ?x9 ?x10 ?x11) ?k1 ?k2 ?_ rfl ?d1 ?d2; (case k1 => k_asm); (case k2 => k_asm); (case x1 => k_in); (case x2 => exact Top.keeps (by assumption) (Fr.keep (by k_asm))); (case x3 => is_list); (case x4 => l_ints); (case x5 => is_list); (case x6 => l_ints); (case x7 => (first | assumption | omega)); (case x8 => (first | assumption | omega)); (case x9 => (first | assumption | omega)); (case x10 => (first | assumption | omega)); (case x11 => (first | assumption | omega)); (case d1 => exact Nat.le_of_ble_eq_true rfl); (case d2 => exact Nat.le_of_ble_eq_true rfl)); (intro l' vs' n' h' tk' F' N' ne' i'); (try k_sweep)) | walk1 | (dsimp only; walk1)))
    unfold Halt
    rename News _ _ _ _ => N8
    rename Fr _ _ _ _ => F8
    rename Obj => o2'
    have d2' : o2'.data = .cell (some (.int ((i + 1 : Nat) : Int) t)) := by assumption
    generalize hR0 : primesOut p.toNat i = R0 at hR hrow
    refine for_range (fun c : RS => (fa, listOf c.vs.toArray c.fn) :: (L + 1 + 1 + 1, c.o1) :: (L + 1 + 1, c.o2) :: (L + 1, o3) :: (c.led ++ own)) (fun _ => []) [Str.ofString "number"] (fun j c => RowsIn c.led c.vs (primesIn p (i + 1) R0 j) ∧ (∀ q ∈ c.led, q.1 ≠ fa) ∧ (∀ q ∈ c.led, q.1 ≠ L + 1 + 1 + 1) ∧ (∀ q ∈ c.led, q.1 ≠ L + 1 + 1) ∧ (∃ v, c.o1.data = .cell v) ∧ c.o2.data = .cell (some (.int ((i + 1 : Nat) : Int) t)) ∧ OwnOff own (c.led.map (·.1))) ⟨vs, fn, o1, o2', led⟩ rfl (by assumption) (small_one (by omega) (by omega) (by omega) (by omega)) (rangeSize_nat _ _) rfl rfl F8 N8 (by kst_all)
      ⟨hR, g1, g2, g3, ⟨_, d1⟩, d2', fun q hq b hb => hoff q hq b (.tail _ (.tail _ (.tail _ (.tail _ hb))))⟩ ?_ ?_
    · rintro c0 j t2 u2 h2 tk2 own2 hj hoff2 hP0 F2 N2 Rq2 hRq2
      obtain ⟨vs, fn, o1, o2, led⟩ := c0
      try dsimp only at hP0
      refine a5 hP0 (fun hR g1 g2 g3 hP1 => ?_)
      clear hP0
      obtain ⟨hx4, d2, hoff3⟩ := hP1
      obtain ⟨v1, d1⟩ := hx4
      try dsimp only at hR g1 g2 g3 d1 d2 hoff3
      change OwnOff own2 (_ :: _ :: _ :: _ :: List.map _ (led ++ own)) at hoff2
      change Fr s.heap L h2 _ at F2
      replace N2 : News s.heap L h2 ((fa, listOf vs.toArray fn) :: (L + 1 + 1 + 1, o1) :: (L + 1 + 1, o2) :: (L + 1, o3) :: (led ++ own ++ own2)) := N2
      have f1 := all_app (all_app g1 (off_one hoff (.head _))) (off_one hoff2 (.head _))
      have f2 := all_app (all_app g2 (off_one hoff (.tail _ (.head _)))) (off_one hoff2 (.tail _ (.head _)))
      have f3 := all_app (all_app g3 (off_one hoff (.tail _ (.tail _ (.head _))))) (off_one hoff2 (.tail _ (.tail _ (.head _))))
      have ej : (0 : Int) + (j : Int) * 1 = (j : Int) := by omega
      rw [ej] at F2
      have e0 : (((i + 1 : Nat) : Int) + 1 - 1).toNat = i + 1 := by omega
      have hMon : ∀ r ∈ primesIn p (i + 1) R0 j, Mon p r := primesIn_mon h1 (by omega) hrow.1
      have hlenR : (primesIn p (i + 1) R0 j).length ≤ 1000 := Nat.le_trans primesIn_len (by omega)
      have hMr : Mon p (countedI p (j : Int) (((i + 1 : Nat) : Int)).toNat) := counted_mon h1 (by omega)
      have hvl := hR.length
      have hz : vs.toArray.size ≤ sizeLine := by
        rw [PySem.sizeLine_eq, List.size_toArray]; omega
      (repeat' (first | (k_here; (with_reducible show wpAny _ _ (call (Value.ref 160) [Value.int _ _, Value.int _ _, Value.int _ _]) _ _ _); k_dflt (refine' use_L (counted_ok ?x1 ?x2 ?x3 ?x4 ?x5) ?k1 ?k2 ?_ rfl ?d1 ?d2; (case k1 => k_asm); (case k2 => k_asm); (case x1 => k_in); (case x2 => exact Top.keeps (by assumption) (Fr.keep (by k_asm))); (case x3 => (first | assumption | omega)); (case x4 => (first | assumption | omega)); (case x5 => (first | assumption | omega)); (case d1 => exact Nat.le_of_ble_eq_true rfl); (case d2 => exact Nat.le_of_ble_eq_true rfl)); (intro l' vs' n' h' tk' F' N' ne' i'); (try k_sweep)) | (k_here; (with_reducible show wpAny _ _ (call (Value.ref 153) [Value.ref _, Value.ref _, Value.int _ _]) _ _ _); k_dflt (refine' use_L (lawleft_ok ?x1 ?x2 ?x3 ?x4 ?x5 ?x6 ?x7 ?x8 ?x9 ?x10 ?x11) ?k1 ?k2 ?_ rfl ?d1 ?d2; (case k1 => k_asm); (case k2 => k_asm); (case x1 => k_in); (case x2 => exact Top.keeps (by assumption) (Fr.keep (by k_asm))); (case x3 => is_list); (case x4 => l_ints); (case x5 => is_list); (case x6 => l_ints); (case x7 => (first | assumption | omega)); (case x8 => (first | assumption | omega)); (case x9 => (first | assumption | omega)); (case x10 => (first | assumption | omega)); (case x11 => (first | assumption | omega)); (case d1 => exact Nat.le_of_ble_eq_true rfl); (case d2 => exact Nat.le_of_ble_eq_true rfl)); (intro l' vs' n' h' tk' F' N' ne' i'); (try k_sweep)) | walk1 | (dsimp only; walk1)))
      unfold Halt
      rename News _ _ _ _ => N7
      rename Fr _ _ _ _ => F7
      refine comp_filter (by assumption) (by with_unfolding_all rfl) (by decide) (by rfl) (by decide) (by rfl) ?_
      (repeat' (first | (k_here; (with_reducible show wpAny _ _ (call (Value.ref 160) [Value.int _ _, Value.int _ _, Value.int _ _]) _ _ _); k_dflt (refine' use_L (counted_ok ?x1 ?x2 ?x3 ?x4 ?x5) ?k1 ?k2 ?_ rfl ?d1 ?d2; (case k1 => k_asm); (case k2 => k_asm); (case x1 => k_in); (case x2 => exact Top.keeps (by assumption) (Fr.keep (by k_asm))); (case x3 => (first | assumption | omega)); (case x4 => (first | assumption | omega)); (case x5 => (first | assumption | omega)); (case d1 => exact Nat.le_of_ble_eq_true rfl); (case d2 => exact Nat.le_of_ble_eq_true rfl)); (intro l' vs' n' h' tk' F' N' ne' i'); (try k_sweep)) | (k_here; (with_reducible show wpAny _ _ (call (Value.ref 153) [Value.ref _, Value.ref _, Value.int _ _]) _ _ _); k_dflt (refine' use_L (lawleft_ok ?x1 ?x2 ?x3 ?x4 ?x5 ?x6 ?x7 ?x8 ?x9 ?x10 ?x11) ?k1 ?k2 ?_ rfl ?d1 ?d2; (case k1 => k_asm); (case k2 => k_asm); (case x1 => k_in); (case x2 => exact Top.keeps (by assumption) (Fr.keep (by k_asm))); (case x3 => is_list); (case x4 => l_ints); (case x5 => is_list); (case x6 => l_ints); (case x7 => (first | assumption | omega)); (case x8 => (first | assumption | omega)); (case x9 => (first | assumption | omega)); (case x10 => (first | assumption | omega)); (case x11 => (first | assumption | omega)); (case d1 => exact Nat.le_of_ble_eq_true rfl); (case d2 => exact Nat.le_of_ble_eq_true rfl)); (intro l' vs' n' h' tk' F' N' ne' i'); (try k_sweep)) | walk1 | (dsimp only; walk1)))
      rename IntsAre _ (countedI _ _ _) => i7
      rename ∀ q ∈ ((fa, listOf vs.toArray fn) :: (L + 1 + 1 + 1, o1) :: (L + 1 + 1, o2) :: (L + 1, o3) :: (led ++ own ++ own2)), q.1 ≠ _ => hneR
      rw [Int.toNat_natCast] at i7 hMr
      have r3 := hMr.po
      refine ⟨fa, vs, fn, _, (fun q ys => RowsIn led ys (((primesIn p (i + 1) R0 j).take q).filter (fits p (i + 1) (countedI p (j : Int) (i + 1))))), rfl, rfl, .tail _ (.head _), by rw [PySem.sizeLine_eq]; omega, F7, N7, .nil, ?_, ?_⟩
      · intro g q ys v I oI C oC D m₂ h3 tk3 E' hv hP hC hx F3 N3
        obtain ⟨a3, us3, n3, xs3, rfl, hm3, iu3, hr3⟩ := hR.get q v hv
        have hM3 := hMon xs3 (List.mem_of_getElem? hr3)
        have q3 := hM3.po
        have p3 := hM3.pos
        have l3 := hM3.last
        have hm3' : (a3, listOf us3.toArray n3) ∈ led ++ own ++ own2 := List.mem_append_left _ (List.mem_append_left _ hm3)
        have hlen3 := q3.len
        have hft := filter_take (f := fits p (i + 1) (countedI p (j : Int) (i + 1))) hr3
        (repeat' (first | (k_here; (with_reducible show wpAny _ _ (call (Value.ref 160) [Value.int _ _, Value.int _ _, Value.int _ _]) _ _ _); k_dflt (refine' use_L (counted_ok ?x1 ?x2 ?x3 ?x4 ?x5) ?k1 ?k2 ?_ rfl ?d1 ?d2; (case k1 => k_asm); (case k2 => k_asm); (case x1 => k_in); (case x2 => exact Top.keeps (by assumption) (Fr.keep (by k_asm))); (case x3 => (first | assumption | omega)); (case x4 => (first | assumption | omega)); (case x5 => (first | assumption | omega)); (case d1 => exact Nat.le_of_ble_eq_true rfl); (case d2 => exact Nat.le_of_ble_eq_true rfl)); (intro l' vs' n' h' tk' F' N' ne' i'); (try k_sweep)) | (k_here; (with_reducible show wpAny _ _ (call (Value.ref 153) [Value.ref _, Value.ref _, Value.int _ _]) _ _ _); k_dflt (refine' use_L (lawleft_ok ?x1 ?x2 ?x3 ?x4 ?x5 ?x6 ?x7 ?x8 ?x9 ?x10 ?x11) ?k1 ?k2 ?_ rfl ?d1 ?d2; (case k1 => k_asm); (case k2 => k_asm); (case x1 => k_in); (case x2 => exact Top.keeps (by assumption) (Fr.keep (by k_asm))); (case x3 => is_list); (case x4 => l_ints); (case x5 => is_list); (case x6 => l_ints); (case x7 => (first | assumption | omega)); (case x8 => (first | assumption | omega)); (case x9 => (first | assumption | omega)); (case x10 => (first | assumption | omega)); (case x11 => (first | assumption | omega)); (case d1 => exact Nat.le_of_ble_eq_true rfl); (case d2 => exact Nat.le_of_ble_eq_true rfl)); (intro l' vs' n' h' tk' F' N' ne' i'); (try k_sweep)) | walk1 | (dsimp only; walk1)))
        · rename News _ _ _ _ => N9
          rename Fr _ _ _ _ => F9
          have hf : fits p (i + 1) (countedI p (j : Int) (i + 1)) xs3 = true := by
            unfold fits; rw [Bool.and_eq_true]; exact ⟨decide_eq_true (by omega), by assumption⟩
          refine ElEnd.intro F9 (News.sub N9 fun q hq => .tail _ (.tail _ hq)) ?_
          rw [hft, if_pos hf]
          exact RowsIn.snoc hP hm3 iu3
        · rename News _ _ _ _ => N9
          rename Fr _ _ _ _ => F9
          have hf : fits p (i + 1) (countedI p (j : Int) (i + 1)) xs3 = false := by
            unfold fits; rw [Bool.and_eq_false_iff]; exact .inr (by assumption)
          refine ElEnd.intro F9 (News.sub N9 fun q hq => .tail _ (.tail _ hq)) ?_
          rw [hft, if_neg (by rw [hf]; decide), List.append_nil]
          exact hP
        · have hf : fits p (i + 1) (countedI p (j : Int) (i + 1)) xs3 = false := by
            unfold fits; rw [Bool.and_eq_false_iff]; exact .inl (decide_eq_false (by omega))
          refine ElEnd.intro F3 N3 ?_
          rw [hft, if_neg (by rw [hf]; decide), List.append_nil]
          exact hP
      · intro D h3 tk3 ys F3 N3 hD hP
        rw [hvl, List.take_length] at hP
        (repeat' (first | (k_here; (with_reducible show wpAny _ _ (call (Value.ref 160) [Value.int _ _, Value.int _ _, Value.int _ _]) _ _ _); k_dflt (refine' use_L (counted_ok ?x1 ?x2 ?x3 ?x4 ?x5) ?k1 ?k2 ?_ rfl ?d1 ?d2; (case k1 => k_asm); (case k2 => k_asm); (case x1 => k_in); (case x2 => exact Top.keeps (by assumption) (Fr.keep (by k_asm))); (case x3 => (first | assumption | omega)); (case x4 => (first | assumption | omega)); (case x5 => (first | assumption | omega)); (case d1 => exact Nat.le_of_ble_eq_true rfl); (case d2 => exact Nat.le_of_ble_eq_true rfl)); (intro l' vs' n' h' tk' F' N' ne' i'); (try k_sweep)) | (k_here; (with_reducible show wpAny _ _ (call (Value.ref 153) [Value.ref _, Value.ref _, Value.int _ _]) _ _ _); k_dflt (refine' use_L (lawleft_ok ?x1 ?x2 ?x3 ?x4 ?x5 ?x6 ?x7 ?x8 ?x9 ?x10 ?x11) ?k1 ?k2 ?_ rfl ?d1 ?d2; (case k1 => k_asm); (case k2 => k_asm); (case x1 => k_in); (case x2 => exact Top.keeps (by assumption) (Fr.keep (by k_asm))); (case x3 => is_list); (case x4 => l_ints); (case x5 => is_list); (case x6 => l_ints); (case x7 => (first | assumption | omega)); (case x8 => (first | assumption | omega)); (case x9 => (first | assumption | omega)); (case x10 => (first | assumption | omega)); (case x11 => (first | assumption | omega)); (case d1 => exact Nat.le_of_ble_eq_true rfl); (case d2 => exact Nat.le_of_ble_eq_true rfl)); (intro l' vs' n' h' tk' F' N' ne' i'); (try k_sweep)) | walk1 | (dsimp only; walk1)))
        unfold Halt
        rename News _ _ _ _ => N6
        rename Fr _ _ _ _ => F6
        obtain ⟨as, ra⟩ := rows_read (D := D) (n := ys.length) hP (News.sub N6 fun q hq => .tail _ (.tail _ (.tail _ (.tail _ (.tail _ (.tail _ (.tail _ (List.mem_append_left _ (List.mem_append_left _ hq))))))))) (N6 (D, listOf ys.toArray ys.length) (.tail _ (.head _))).1
        refine eq_dataH ra (Reads.list (N6 _ (.head _)).1 rfl rfl .nil) (rows_shaped _) (rows_shaped []) (by ke_room) ?_
        rw [rows_eqv]
        have hnext : primesIn p (i + 1) R0 (j + 1) = primesStep p (i + 1) (primesIn p (i + 1) R0 j) j := rfl
        by_cases hF : (primesIn p (i + 1) R0 j).filter (fits p (i + 1) (countedI p (j : Int) (i + 1))) = []
        · rw [decide_eq_true hF]
          (repeat' (first | (k_here; (with_reducible show wpAny _ _ (call (Value.ref 160) [Value.int _ _, Value.int _ _, Value.int _ _]) _ _ _); k_dflt (refine' use_L (counted_ok ?x1 ?x2 ?x3 ?x4 ?x5) ?k1 ?k2 ?_ rfl ?d1 ?d2; (case k1 => k_asm); (case k2 => k_asm); (case x1 => k_in); (case x2 => exact Top.keeps (by assumption) (Fr.keep (by k_asm))); (case x3 => (first | assumption | omega)); (case x4 => (first | assumption | omega)); (case x5 => (first | assumption | omega)); (case d1 => exact Nat.le_of_ble_eq_true rfl); (case d2 => exact Nat.le_of_ble_eq_true rfl)); (intro l' vs' n' h' tk' F' N' ne' i'); (try k_sweep)) | (k_here; (with_reducible show wpAny _ _ (call (Value.ref 153) [Value.ref _, Value.ref _, Value.int _ _]) _ _ _); k_dflt (refine' use_L (lawleft_ok ?x1 ?x2 ?x3 ?x4 ?x5 ?x6 ?x7 ?x8 ?x9 ?x10 ?x11) ?k1 ?k2 ?_ rfl ?d1 ?d2; (case k1 => k_asm); (case k2 => k_asm); (case x1 => k_in); (case x2 => exact Top.keeps (by assumption) (Fr.keep (by k_asm))); (case x3 => is_list); (case x4 => l_ints); (case x5 => is_list); (case x6 => l_ints); (case x7 => (first | assumption | omega)); (case x8 => (first | assumption | omega)); (case x9 => (first | assumption | omega)); (case x10 => (first | assumption | omega)); (case x11 => (first | assumption | omega)); (case d1 => exact Nat.le_of_ble_eq_true rfl); (case d2 => exact Nat.le_of_ble_eq_true rfl)); (intro l' vs' n' h' tk' F' N' ne' i'); (try k_sweep)) | walk1 | (dsimp only; walk1)))
          (first | refine hRq2 _ _ ?_ | refine hRq _ _ ?_)
          dsimp only [TurnPost]
          rename News _ _ _ _ => N9
          rename Fr _ _ _ _ => F9
          simp only [List.push_toArray] at N9
          refine' TurnEnd.intro ⟨vs ++ [_], fn + 1, _, o2, _ :: led⟩ F9 N9 mem_A (fun q hq => .tail _ (.tail _ (.tail _ (.tail _ (.tail _ (.tail _ (.tail _ (List.mem_append_right _ hq)))))))) (off_more hoff2 ?c1) ?c2 ?c3 ⟨?c4, ?c5, ?c6, ?c7, ⟨_, by assumption⟩, d2, ?c8⟩
          (case c1 => exact fun q hq => hneR q (.tail _ (.tail _ (.tail _ (.tail _ (List.mem_append_right _ hq))))))
          (case c2 => kst_all)
          (case c3 => exact (by intro z h2 h3; simp only [List.contains_cons, List.contains_nil, Bool.or_false, Bool.or_eq_false_iff, beq_eq_false_iff_ne, ne_eq] at h3; (try simp only [List.forall_mem_cons, List.not_mem_nil, false_implies, implies_true, and_true, ne_eq] at h2); simp [h2, h3, mapB, kstB]))
          (case c4 => dsimp only; rw [hnext, primesStep, if_pos hF]; exact (hR.more fun q hq => .tail _ hq).snoc (.head _) i7)
          (case c5 => exact List.forall_mem_cons.mpr ⟨ne_of_news hneR (.head _), g1⟩)
          (case c6 => exact List.forall_mem_cons.mpr ⟨ne_of_news hneR (.tail _ (.head _)), g2⟩)
          (case c7 => exact List.forall_mem_cons.mpr ⟨ne_of_news hneR (.tail _ (.tail _ (.head _))), g3⟩)
          (case c8 => exact fun q hq b hb => (List.mem_cons.mp hb).elim (fun e => e ▸ hneR q (.tail _ (.tail _ (.tail _ (.tail _ (List.mem_append_left _ (List.mem_append_right _ hq))))))) (hoff3 q hq b))
        · rw [decide_eq_false hF]
          (repeat' (first | (k_here; (with_reducible show wpAny _ _ (call (Value.ref 160) [Value.int _ _, Value.int _ _, Value.int _ _]) _ _ _); k_dflt (refine' use_L (counted_ok ?x1 ?x2 ?x3 ?x4 ?x5) ?k1 ?k2 ?_ rfl ?d1 ?d2; (case k1 => k_asm); (case k2 => k_asm); (case x1 => k_in); (case x2 => exact Top.keeps (by assumption) (Fr.keep (by k_asm))); (case x3 => (first | assumption | omega)); (case x4 => (first | assumption | omega)); (case x5 => (first | assumption | omega)); (case d1 => exact Nat.le_of_ble_eq_true rfl); (case d2 => exact Nat.le_of_ble_eq_true rfl)); (intro l' vs' n' h' tk' F' N' ne' i'); (try k_sweep)) | (k_here; (with_reducible show wpAny _ _ (call (Value.ref 153) [Value.ref _, Value.ref _, Value.int _ _]) _ _ _); k_dflt (refine' use_L (lawleft_ok ?x1 ?x2 ?x3 ?x4 ?x5 ?x6 ?x7 ?x8 ?x9 ?x10 ?x11) ?k1 ?k2 ?_ rfl ?d1 ?d2; (case k1 => k_asm); (case k2 => k_asm); (case x1 => k_in); (case x2 => exact Top.keeps (by assumption) (Fr.keep (by k_asm))); (case x3 => is_list); (case x4 => l_ints); (case x5 => is_list); (case x6 => l_ints); (case x7 => (first | assumption | omega)); (case x8 => (first | assumption | omega)); (case x9 => (first | assumption | omega)); (case x10 => (first | assumption | omega)); (case x11 => (first | assumption | omega)); (case d1 => exact Nat.le_of_ble_eq_true rfl); (case d2 => exact Nat.le_of_ble_eq_true rfl)); (intro l' vs' n' h' tk' F' N' ne' i'); (try k_sweep)) | walk1 | (dsimp only; walk1)))
          (first | refine hRq2 _ _ ?_ | refine hRq _ _ ?_)
          dsimp only [TurnPost]
          refine' TurnEnd.intro ⟨vs, fn, _, o2, led⟩ F6 N6 mem_B (fun q hq => .tail _ (.tail _ (.tail _ (.tail _ (.tail _ (.tail _ (.tail _ (List.mem_append_right _ hq)))))))) hoff2 ?b2 ?b3 ⟨?b4, g1, g2, g3, ⟨_, by assumption⟩, d2, hoff3⟩
          (case b2 => kst_all)
          (case b3 => exact (by intro z h2 h3; simp only [List.contains_cons, List.contains_nil, Bool.or_false, Bool.or_eq_false_iff, beq_eq_false_iff_ne, ne_eq] at h3; (try simp only [List.forall_mem_cons, List.not_mem_nil, false_implies, implies_true, and_true, ne_eq] at h2); simp [h2, h3, mapB, kstB]))
          (case b4 => dsimp only; rw [hnext, primesStep, if_neg hF]; exact hR)
    · rintro ⟨vs, fn, o1, o2, led⟩ u2 h2 tk2 ⟨hR, g1, g2, g3, d1, d2, hoff3⟩ F2 N2
      dsimp only at hR g1 g2 g3 hoff3 d1 d2
      change Fr s.heap L h2 _ at F2
      replace N2 : News s.heap L h2 ((fa, listOf vs.toArray fn) :: (L + 1 + 1 + 1, o1) :: (L + 1 + 1, o2) :: (L + 1, o3) :: (led ++ own)) := N2
      dsimp only
      (repeat' (first | (k_here; (with_reducible show wpAny _ _ (call (Value.ref 160) [Value.int _ _, Value.int _ _, Value.int _ _]) _ _ _); k_dflt (refine' use_L (counted_ok ?x1 ?x2 ?x3 ?x4 ?x5) ?k1 ?k2 ?_ rfl ?d1 ?d2; (case k1 => k_asm); (case k2 => k_asm); (case x1 => k_in); (case x2 => exact Top.keeps (by assumption) (Fr.keep (by k_asm))); (case x3 => (first | assumption | omega)); (case x4 => (first | assumption | omega)); (case x5 => (first | assumption | omega)); (case d1 => exact Nat.le_of_ble_eq_true rfl); (case d2 => exact Nat.le_of_ble_eq_true rfl)); (intro l' vs' n' h' tk' F' N' ne' i'); (try k_sweep)) | (k_here; (with_reducible show wpAny _ _ (call (Value.ref 153) [Value.ref _, Value.ref _, Value.int _ _]) _ _ _); k_dflt (refine' use_L (lawleft_ok ?x1 ?x2 ?x3 ?x4 ?x5 ?x6 ?x7 ?x8 ?x9 ?x10 ?x11) ?k1 ?k2 ?_ rfl ?d1 ?d2; (case k1 => k_asm); (case k2 => k_asm); (case x1 => k_in); (case x2 => exact Top.keeps (by assumption) (Fr.keep (by k_asm))); (case x3 => is_list); (case x4 => l_ints); (case x5 => is_list); (case x6 => l_ints); (case x7 => (first | assumption | omega)); (case x8 => (first | assumption | omega)); (case x9 => (first | assumption | omega)); (case x10 => (first | assumption | omega)); (case x11 => (first | assumption | omega)); (case d1 => exact Nat.le_of_ble_eq_true rfl); (case d2 => exact Nat.le_of_ble_eq_true rfl)); (intro l' vs' n' h' tk' F' N' ne' i'); (try k_sweep)) | walk1 | (dsimp only; walk1)))
      (first | refine hRq2 _ _ ?_ | refine hRq _ _ ?_)
      dsimp only [TurnPost]
      refine' TurnEnd.intro ⟨vs, fn, o1, o2, led⟩ F2 N2 mem_C (fun q hq => .tail _ (.tail _ (.tail _ (.tail _ (List.mem_append_right _ hq))))) (off_four hoff hoff3) ?e2 ?e3 ⟨?e4, g1, g2, g3, d1, ⟨_, d2⟩⟩
      (case e2 => kst_all)
      (case e3 => exact (by intro z h2 h3; simp only [List.contains_cons, List.contains_nil, Bool.or_false, Bool.or_eq_false_iff, beq_eq_false_iff_ne, ne_eq] at h3; (try simp only [List.forall_mem_cons, List.not_mem_nil, false_implies, implies_true, and_true, ne_eq] at h2); simp [h2, h3, mapB, kstB]))
      (case e4 =>
        dsimp only
        rw [primesOut, epn, hR0]
        rw [Int.sub_zero, hpw.2.2, Int.toNat_natCast] at hR
        exact hR)
  · rintro ⟨vs, fn, o1, o2, led⟩ u h tk ⟨hR, g1, g2, g3, -, -⟩ F' N'
    dsimp only at hR g1 g2 g3
    change Fr s.heap L h _ at F'
    replace N' : News s.heap L h ((fa, listOf vs.toArray fn) :: (L + 1 + 1 + 1, o1) :: (L + 1 + 1, o2) :: (L + 1, o3) :: led) := N'
    dsimp only
    have ek : (k + 1 - 1).toNat = k.toNat := by omega
    rw [ek] at hR
    (repeat' (first | (k_here; (with_reducible show wpAny _ _ (call (Value.ref 160) [Value.int _ _, Value.int _ _, Value.int _ _]) _ _ _); k_dflt (refine' use_L (counted_ok ?x1 ?x2 ?x3 ?x4 ?x5) ?k1 ?k2 ?_ rfl ?d1 ?d2; (case k1 => k_asm); (case k2 => k_asm); (case x1 => k_in); (case x2 => exact Top.keeps (by assumption) (Fr.keep (by k_asm))); (case x3 => (first | assumption | omega)); (case x4 => (first | assumption | omega)); (case x5 => (first | assumption | omega)); (case d1 => exact Nat.le_of_ble_eq_true rfl); (case d2 => exact Nat.le_of_ble_eq_true rfl)); (intro l' vs' n' h' tk' F' N' ne' i'); (try k_sweep)) | (k_here; (with_reducible show wpAny _ _ (call (Value.ref 153) [Value.ref _, Value.ref _, Value.int _ _]) _ _ _); k_dflt (refine' use_L (lawleft_ok ?x1 ?x2 ?x3 ?x4 ?x5 ?x6 ?x7 ?x8 ?x9 ?x10 ?x11) ?k1 ?k2 ?_ rfl ?d1 ?d2; (case k1 => k_asm); (case k2 => k_asm); (case x1 => k_in); (case x2 => exact Top.keeps (by assumption) (Fr.keep (by k_asm))); (case x3 => is_list); (case x4 => l_ints); (case x5 => is_list); (case x6 => l_ints); (case x7 => (first | assumption | omega)); (case x8 => (first | assumption | omega)); (case x9 => (first | assumption | omega)); (case x10 => (first | assumption | omega)); (case x11 => (first | assumption | omega)); (case d1 => exact Nat.le_of_ble_eq_true rfl); (case d2 => exact Nat.le_of_ble_eq_true rfl)); (intro l' vs' n' h' tk' F' N' ne' i'); (try k_sweep)) | walk1 | (dsimp only; walk1)))
    exact hQ _ _ _ F'.keep ⟨fa, vs, fn, led, rfl, fun q hq => ⟨(N' q (.tail _ (.tail _ (.tail _ (.tail _ hq))))).2.2, (N' q (.tail _ (.tail _ (.tail _ (.tail _ hq))))).1⟩, (N' _ (.head _)).2.2, (N' _ (.head _)).1, g1, hR⟩
end
end
theorem top_off_F16 : True := by
  w_top off
  trivial

section
set_option maxRecDepth 100000
set_option linter.unusedVariables false
set_option linter.unusedSimpArgs false
open PySem PySem.W PySem.Calls PyProof.Rows PySem.Spec
theorem fill_F16 : PySem.Challenge.rw_nn0250_01 = PySem.Challenge.rw_nn0250_01 ∧ hd.heap_39 = hd.heap_39 := by
  k_fill
  exact ⟨rfl, rfl⟩

open PyProof.Rows.LCg (lst)
/-- the two objects of the draws -/
noncomputable abbrev drawL (D R : Addr) (seed : Int) (ts : Tok) (n : Nat) (rs : List Value) (k : Nat) : List (Addr × Obj) := [(D, listOf (List.toArray [.ref R, .int seed ts]) n), (R, listOf rs.toArray k)]
noncomputable def NewDraws (h h' : Heap) (v : Value) : Prop :=
  ∃ D R seed ts n rs k xs, v = .ref D ∧ D ≠ R ∧ h.get? D = none ∧ h.get? R = none ∧ h'.get? D = some (listOf (List.toArray [.ref R, .int seed ts]) n) ∧ h'.get? R = some (listOf (List.toArray rs) k) ∧ IntsAre rs xs ∧ xs.length ≤ 40 ∧ (0 ≤ seed ∧ seed < 2147483647)
theorem ints_get {vs : List Value} {ns : List Int} (h : IntsAre vs ns) : ∀ {i : Nat} {v : Value}, vs[i]? = some v → ∃ z t, ns[i]? = some z ∧ v = .int z t := by
  induction h with
  | nil => intro i v h; simp at h
  | cons k t r ih =>
    intro i v hv
    cases i with
    | zero => exact ⟨k, t, rfl, by simpa using hv.symm⟩
    | succ i => exact ih (by simpa using hv)
section
local macro_rules | `(tactic| walk_at "InvPostN") => `(tactic| refine halt ?_)


local macro_rules | `(tactic| walk_at "none such") => `(tactic| skip)
set_option maxHeartbeats 4000000 in
theorem draws_ok : ∀ {w : World} {mean : ExcName → Option Value} {mg mb : Str → Option Value} {s : Shared} {a : Addr} {us : List Value} {xs : List Int}
    (_ : (hd.heap_39 w.params).In s.heap) (_ : Top hd.view_39 (looseW hd.view_39 []) mean mg mb s.heap)
    (_ : s.heap.IsList a us.toArray) (_ : IntsAre us xs) (_ : xs.length < 1000), Fn w 0 127 s [.ref a] (NewDraws s.heap) := by
  intro w mean mg mb s a us xs X T h1 h2 h3
  intro Q E hQ
  refine wpAny_call ?_
  refine enter (binds := [(Str.ofString "script", .ref a)]) (by assumption) (by assumption) (by k_is) (by k_is) (by decide) (BindsTo.of_eq rfl) (locs rfl) ?_ (by decide) rfl rfl rfl
  intro L h₁ F N
  k_fold
  (repeat' (first | walk1 | (dsimp only; walk1)))
  unfold Halt
  refine comp_map (by assumption) (by with_unfolding_all rfl) (by decide) (by rfl) (by decide) (by rfl) ?_
  (repeat' (first | walk1 | (dsimp only; walk1)))
  rename News _ _ _ _ => N7
  rename Fr _ _ _ _ => F7
  rename IntsAre _ (List.take 40 xs) => i7
  have hl40 : (List.take 40 xs).length ≤ 40 := by rw [List.length_take]; omega
  generalize List.take 40 xs = zs at i7 hl40
  refine ⟨_, _, 0, _, (fun i ys ex => ex = [] ∧ ys.length = i ∧ ∃ ks, IntsAre ys ks), rfl, rfl, .head _, by rw [PySem.sizeLine_eq, i7.length]; omega, F7, N7, ⟨rfl, rfl, [], .nil⟩, ?_, ?_⟩
  · rintro g i ys v ex I oI C oC D m₂ h tk E' hv ⟨rfl, hyl, ks, hks⟩ hC hx F3 N3 off
    obtain ⟨z, tz, hz, rfl⟩ := ints_get i7 hv
    (repeat' (first | walk1 | (dsimp only; walk1)))
    refine MpEnd.intro [] F3 N3 off ⟨rfl, by rw [List.length_append, List.length_singleton, hyl], _, IntsAre.append hks (.cons _ _ .nil)⟩
  · rintro D h tk ys ex F3 N3 hD ⟨rfl, hyl, ks, hks⟩
    rw [List.nil_append] at N3 hD
    (repeat' (first | walk1 | (dsimp only; walk1)))
    unfold Halt
    rename News _ _ _ _ => N8
    rename Fr _ _ _ _ => F8
    have hks2 := hks.length
    have hws := i7.length
    refine For_invVF F8 rfl rfl ?_
    (repeat' (first | walk1 | (dsimp only; walk1)))
    try unfold Halt
    refine kst_listL (fun _ => [(D, lst ys)]) (fun (c : Int × Tok) => [(Str.ofString "seed", .int c.1 c.2)]) (fun _ => True) [] (fun _ c => 0 ≤ c.1 ∧ c.1 < 2147483647) (8191, _) rfl (fun _ => .head _) hks F8 (News.sub N8 ?sb) trivial (by kst_all) ⟨by dsimp only; omega, by dsimp only; omega⟩ ?_ ?_
    · exact fun q hq => by rw [List.mem_singleton.mp hq]; exact .tail _ (.head _)
    · rintro ⟨sd, tsd⟩ pre post n t u h4 tk4 own - - hoff - hb F4 N4
      dsimp only at hb
      have m1 : (1000003 : Int) ≠ 0 := by decide
      have m2 : (2147483647 : Int) ≠ 0 := by decide
      (repeat' (first | walk1 | (dsimp only; walk1)))
      unfold Halt
      dsimp only [InvPostN]
      rename News _ _ _ _ => N9
      rename Fr _ _ _ _ => F9
      refine' kst_end (Int.fmod (sd * 31 + Int.fmod n 1000003 + 9) 2147483647, _) F9 N9 (fun q hq => List.mem_append_left _ hq) (fun q hq => List.mem_append_right _ hq) rfl trivial ?hk ?hr ?hp
      (case hk => kst_all)
      (case hr =>
        intro z hz h2 h3
        simp only [List.forall_mem_cons, List.not_mem_nil, false_implies, implies_true, and_true, ne_eq] at h2
        simp [hz, h2, kstB])
      (case hp => exact ⟨Int.fmod_nonneg_of_pos _ (by decide), Int.fmod_lt_of_pos _ (by decide)⟩)
    · rintro ⟨sd, tsd⟩ u h4 tk4 - hb F4 N4
      dsimp only at hb
      dsimp only
      (repeat' (first | walk1 | (dsimp only; walk1)))
      rename News _ _ _ _ => N9
      rename Fr _ _ _ _ => F9
      refine hQ _ _ _ F9.keep ⟨_, D, sd, tsd, 0, ys, ys.length, ks, rfl, ?_, (N9 _ (.head _)).2.2, (N9 _ (.tail _ (.head _))).2.2, (N9 _ (.head _)).1, (N9 _ (.tail _ (.head _))).1, hks, by omega, hb⟩
      refine neN ?_
      omega
end
end
end
theorem top_off_F17 : True := by
  w_top off
  trivial

section
set_option maxRecDepth 100000
set_option linter.unusedVariables false
set_option linter.unusedSimpArgs false
open PySem PySem.W PySem.Calls PyProof.Rows PySem.Spec
theorem fill_F17 : PySem.Challenge.rw_nn0250_01 = PySem.Challenge.rw_nn0250_01 ∧ hd.heap_39 = hd.heap_39 := by
  k_fill
  exact ⟨rfl, rfl⟩

section
local macro_rules | `(tactic| k_ne) => `(tactic| first | assumption | (refine Ne.symm ?_; assumption))
local macro_rules | `(tactic| k_all) => `(tactic| first | exact List.forall_mem_nil _ | (refine' List.forall_mem_cons.mpr ⟨?a, ?b⟩; (case a => k_ne); (case b => k_all)))
local macro_rules | `(tactic| walk_at "call builtin:list.pop") => `(tactic| (k_here; (with_reducible show wpAny _ _ (call (Value.builtin _) [Value.ref _, Value.int 0 _]) _ _ _); k_dflt (refine' pop_at_K (k := 0) (vs := _ :: _) ?F ?N ?y ?z ?U ?_; (case F => k_asm); (case N => k_asm); (case U => k_upd); (case y => rfl); (case z => assumption)); (intro h' F' N'; (try dsimp only [List.eraseIdx] at N'))))
set_option maxHeartbeats 4000000 in
theorem take_raw : ∀ {w : World} {mean : ExcName → Option Value} {mg mb : Str → Option Value} {s : Shared} {D R : Addr} {seed many : Int} {ts tm : Tok} {n k : Nat} {rs : List Value} {xs : List Int}
    (_ : (hd.heap_39 w.params).In (hideAll s.heap ((drawL D R seed ts n rs k).map (·.1)))) (_ : Top hd.view_39 (looseW hd.view_39 []) mean mg mb (hideAll s.heap ((drawL D R seed ts n rs k).map (·.1))))
    (_ : ∀ q ∈ drawL D R seed ts n rs k, s.heap.get? q.1 = some q.2) (_ : D ≠ R) (_ : IntsAre rs xs) (_ : xs.length ≤ 40) (_ : 0 ≤ seed ∧ seed < 2147483647) (_ : 0 < many ∧ many ≤ 100)
    (Q : Value → Shared → Prop) (E : Value → Shared → Prop),
    (∀ r t h' tk rs' xs' k' seed' ts' n', (0 ≤ r ∧ r < many) → (hideAll s.heap ((drawL D R seed ts n rs k).map (·.1))).StaysIn h' → (∀ q ∈ drawL D R seed' ts' n' rs' k', h'.get? q.1 = some q.2) → IntsAre rs' xs' → xs'.length ≤ 40 → (0 ≤ seed' ∧ seed' < 2147483647) → Q (.int r t) { s with heap := h', toks := tk }) →
    wpAny (model PySem.Challenge.rw_nn0250_01.row.prog w) (Lv 0) (call (.ref 134) [.ref D, .int many tm]) Q E s := by
  intro w mean mg mb s D R seed many ts tm n k rs xs X T Mu hDR hi hl hs hm Q E hQ
  refine wpAny_call ?_
  refine enterM (binds := [(Str.ofString "draws", .ref D), (Str.ofString "many", .int many tm)]) (drawL D R seed ts n rs k) (by assumption) (by assumption) Mu (by k_is) (by k_is) (by decide) (BindsTo.of_eq rfl) (locs rfl) ?_ (by decide) rfl rfl rfl
  intro L h₁ F N
  generalize hideAll s.heap ((drawL D R seed ts n rs k).map (·.1)) = hb at X T F N hQ
  k_fold
  have hm0 : many ≠ 0 := by omega
  have m2 : (2147483647 : Int) ≠ 0 := by decide
  have hlen := hi.length
  have hfm : ∀ x, 0 ≤ Int.fmod x many ∧ Int.fmod x many < many := fun x => ⟨Int.fmod_nonneg_of_pos _ hm.1, Int.fmod_lt_of_pos _ hm.1⟩
  cases hi with
  | nil =>
    (repeat' (first | walk1 | (dsimp only; walk1)))
    rename News _ _ _ _ => N9
    rename Fr _ _ _ _ => F9
    exact hQ _ _ _ _ [] [] _ _ _ _ (hfm _) F9.keep (fun q hq => (N9 q (.tail _ hq)).1) .nil (by decide) ⟨Int.fmod_nonneg_of_pos _ (by decide), Int.fmod_lt_of_pos _ (by decide)⟩
  | cons z tz hi =>
    rename_i rs xs
    have hz3 : (Value.int z tz :: rs).length < 1000 := by rw [hlen]; omega
    (repeat' (first | walk1 | (dsimp only; walk1)))
    · rename News _ _ _ _ => N9
      rename Fr _ _ _ _ => F9
      exact hQ _ _ _ _ _ _ _ _ _ _ (hfm _) F9.keep (fun q hq => (N9 q (.tail _ hq)).1) (.cons z tz hi) hl ⟨Int.fmod_nonneg_of_pos _ (by decide), Int.fmod_lt_of_pos _ (by decide)⟩
    · rename News _ _ _ _ => N9
      rename Fr _ _ _ _ => F9
      exact hQ _ _ _ _ _ _ _ _ _ _ (hfm _) F9.keep (fun q hq => (N9 q (.tail _ hq)).1) hi (by simp at hl; omega) hs
end
section
variable {w : World} {mean : ExcName → Option Value} {mg mb : Str → Option Value} {s : Shared} {A : Around} {h₀ : Heap} {L : Addr} {m : Str → Option Value} {rest : List (Addr × Obj)} {D R : Addr} {seed many : Int} {ts tm : Tok} {n k : Nat} {rs : List Value} {xs : List Int} {Q E : Value → Shared → Prop}
theorem use_take (X : (hd.heap_39 w.params).In h₀) (T : Top hd.view_39 (looseW hd.view_39 []) mean mg mb h₀) (F : Fr h₀ L s.heap m) (N : News h₀ L s.heap (drawL D R seed ts n rs k ++ rest))
    (h1 : D ≠ R) (hr : ∀ q ∈ rest, q.1 ≠ D ∧ q.1 ≠ R) (hi : IntsAre rs xs) (hl : xs.length ≤ 40) (hs : 0 ≤ seed ∧ seed < 2147483647) (hm : 0 < many ∧ many ≤ 100)
    (h : ∀ r t h' tk rs' xs' k' seed' ts' n', (0 ≤ r ∧ r < many) → Fr h₀ L h' m → News h₀ L h' (drawL D R seed' ts' n' rs' k' ++ rest) → IntsAre rs' xs' → xs'.length ≤ 40 → (0 ≤ seed' ∧ seed' < 2147483647) → Q (.int r t) { s with heap := h', toks := tk })
    (hh : A.handled = none) (hd' : A.depth ≤ (Lv 0).depth) (hu : A.units ≤ (Lv 0).units) :
    wpAny (model PySem.Challenge.rw_nn0250_01.row.prog w) A (call (.ref 134) [.ref D, .int many tm]) Q E s := by
  have nD := N (D, _) (List.mem_append_left _ (.head _))
  have nR := N (R, _) (List.mem_append_left _ (.tail _ (.head _)))
  have mapE : (drawL D R seed ts n rs k).map (·.1) = [D, R] := rfl
  have st : ∀ b o, h₀.get? b = some o → (hideAll s.heap ((drawL D R seed ts n rs k).map (·.1))).get? b = some o := fun b o e => hideAll_get _ (F.keep b o e) fun q => by
    rw [mapE] at q
    rcases List.mem_cons.mp q with rfl | q
    · rw [nD.2.2] at e; cases e
    · rw [List.mem_singleton.mp q, nR.2.2] at e; cases e
  refine any_lower rfl rfl hh hd' hu (take_raw (X.keeps st) (T.keeps st) (fun q hq => (N q (List.mem_append_left _ hq)).1) h1 hi hl hs hm Q E ?_)
  intro r t h' tk rs' xs' k' seed' ts' n' hr' hst hq hi' hl' hs'
  obtain ⟨oL, es, ep, hL, hLd, hLk, hLf⟩ := F.ns
  have up : ∀ b o, s.heap.get? b = some o → b ≠ D → b ≠ R → h'.get? b = some o := fun b o e g1 g2 => hst b o (hideAll_get _ e fun q => by
    rw [mapE] at q
    rcases List.mem_cons.mp q with q | q
    · exact g1 q
    · exact g2 (List.mem_singleton.mp q))
  refine h r t h' tk rs' xs' k' seed' ts' n' hr' ⟨⟨oL, es, ep, up L oL hL (Ne.symm nD.2.1) (Ne.symm nR.2.1), hLd, hLk, hLf⟩, fun b o e => hst b o (st b o e), F.above⟩ (fun q hq' => ?_) hi' hl' hs'
  rcases List.mem_append.mp hq' with hq' | hq'
  · refine ⟨hq q hq', ?_⟩
    rcases List.mem_cons.mp hq' with rfl | hq'
    · exact nD.2
    · rw [List.mem_singleton.mp hq']; exact nR.2
  · have z := N q (List.mem_append_right _ hq')
    exact ⟨up _ _ z.1 (hr q hq').1 (hr q hq').2, z.2⟩
end
end
section
local macro_rules | `(tactic| omega) => `(tactic| lia)
theorem top_off_Q1 : True := by
  w_top off
  trivial

section
set_option maxRecDepth 100000
set_option linter.unusedVariables false
/-! the same functions, quicker -/
noncomputable def zipIn (g : Int → Int → Int) : List Int → List Int → List Int
  | [], F => F
  | _ :: _, [] => []
  | y :: b, x :: F => g x y :: zipIn g b F
noncomputable def upIn (g : Int → Int → Int) (i : Nat) (b : List Int) : Nat → List Int → List Int
  | 0, F => F
  | j + 1, F => (upIn g i b j F).set (i + j) (g ((upIn g i b j F).getD (i + j) 0) (b.getD j 0))
theorem zipIn_get (g : Int → Int → Int) : ∀ (b F : List Int) (k : Nat), (zipIn g b F)[k]? = if k < b.length then F[k]?.map (fun x => g x (b.getD k 0)) else F[k]?
  | [], F, k => by simp [zipIn]
  | y :: b, [], k => by simp [zipIn]
  | y :: b, x :: F, 0 => by simp [zipIn]
  | y :: b, x :: F, k + 1 => by
    rw [zipIn, List.getElem?_cons_succ, zipIn_get g b F k]
    simp
theorem upIn_length {g : Int → Int → Int} {i : Nat} {b : List Int} : ∀ {j : Nat} {F : List Int}, (upIn g i b j F).length = F.length
  | 0, F => rfl
  | j + 1, F => by rw [upIn, List.length_set, upIn_length]
theorem upIn_get (g : Int → Int → Int) (i : Nat) (b F : List Int) : ∀ (j k : Nat), i + j ≤ F.length → (upIn g i b j F)[k]? = if i ≤ k ∧ k < i + j then F[k]?.map (fun x => g x (b.getD (k - i) 0)) else F[k]?
  | 0, k, _ => by
    rw [upIn, if_neg (by omega)]
  | j + 1, k, h => by
    have ih := upIn_get g i b F j
    rw [upIn, List.getElem?_set, upIn_length]
    by_cases e : i + j = k
    · subst e
      rw [if_pos rfl, if_pos (by omega), if_pos (by omega)]
      have h1 := ih (i + j) (by omega)
      rw [if_neg (by omega)] at h1
      rw [List.getD_eq_getElem?_getD, h1, List.getElem?_eq_getElem (by omega : i + j < F.length)]
      simp [show i + j - i = j by omega]
    · rw [if_neg e, ih k (by omega)]
      by_cases h2 : i ≤ k ∧ k < i + j
      · rw [if_pos h2, if_pos (by omega)]
      · rw [if_neg h2, if_neg (by omega)]
theorem upIn_fast (g : Int → Int → Int) (i : Nat) (b F : List Int) (h : i + b.length ≤ F.length) : upIn g i b b.length F = F.take i ++ zipIn g b (F.drop i) := by
  refine List.ext_getElem? fun k => ?_
  rw [upIn_get g i b F _ k h, List.getElem?_append, List.length_take]
  by_cases h1 : k < i
  · rw [if_neg (by omega), if_pos (by omega), List.getElem?_take_of_lt h1]
  · rw [if_neg (c := k < min i F.length) (by omega), zipIn_get, List.getElem?_drop, show min i F.length = i by omega, show i + (k - i) = k by omega]
    by_cases h2 : k < i + b.length
    · rw [if_pos (by omega), if_pos (by omega)]
    · rw [if_neg (by omega), if_neg (by omega)]
theorem mulIn_up (p : Int) (i : Nat) (one : Int) (b F : List Int) : ∀ j, mulIn p i one b j F = upIn (fun x y => Int.fmod (x + one * y) p) i b j F
  | 0 => rfl
  | j + 1 => by rw [mulIn, upIn, mulIn_up p i one b F j]
theorem divIn_up (p : Int) (i : Nat) (one : Int) (b F : List Int) : ∀ j, divIn p i one b j F = upIn (fun x y => Int.fmod (x - one * y) p) i b j F
  | 0 => rfl
  | j + 1 => by rw [divIn, upIn, divIn_up p i one b F j]
noncomputable def mulRow (p : Int) (i : Nat) (one : Int) (b F : List Int) : List Int := F.take i ++ zipIn (fun x y => Int.fmod (x + one * y) p) b (F.drop i)
noncomputable def divRow (p : Int) (i : Nat) (one : Int) (b F : List Int) : List Int := F.take i ++ zipIn (fun x y => Int.fmod (x - one * y) p) b (F.drop i)
theorem mulIn_fast {p : Int} {i : Nat} {one : Int} {b F : List Int} (h : i + b.length ≤ F.length) : mulIn p i one b b.length F = mulRow p i one b F := by rw [mulIn_up, upIn_fast _ _ _ _ h]; rfl
theorem divIn_fast {p : Int} {i : Nat} {one : Int} {b F : List Int} (h : i + b.length ≤ F.length) : divIn p i one b b.length F = divRow p i one b F := by rw [divIn_up, upIn_fast _ _ _ _ h]; rfl

/-- rows, one by one: the places of a, the row's number -/
noncomputable def mulRows (p : Int) (b : List Int) : List Int → Nat → List Int → List Int
  | [], _, F => F
  | x :: a, i, F => mulRows p b a (i + 1) (if x = 0 then F else mulRow p i x b F)
noncomputable def timesRows (p : Int) (b : List Int) : List Int → Nat → List Int → List Int
  | [], _, F => F
  | x :: a, i, F => timesRows p b a (i + 1) (mulRow p i x b F)
theorem mulRow_length {p : Int} {i : Nat} {one : Int} {b F : List Int} (h : i + b.length ≤ F.length) : (mulRow p i one b F).length = F.length := by rw [← mulIn_fast h, mulIn_length]
theorem mulRows_eq (p : Int) (b : List Int) : ∀ (a pre : List Int) (Z : List Int), (pre ++ a).length + b.length ≤ Z.length + 1 → mulRows p b a pre.length (mulOut p (pre ++ a) b pre.length Z) = mulOut p (pre ++ a) b (pre ++ a).length Z
  | [], pre, Z, _ => by rw [mulRows, List.append_nil]
  | x :: a, pre, Z, h => by
    have hl : (pre ++ x :: a).length = pre.length + a.length + 1 := by simp; omega
    have hx : (pre ++ x :: a).getD pre.length 0 = x := by simp [List.getD_eq_getElem?_getD]
    have hnext : mulOut p (pre ++ x :: a) b (pre.length + 1) Z = (if x = 0 then mulOut p (pre ++ x :: a) b pre.length Z else mulRow p pre.length x b (mulOut p (pre ++ x :: a) b pre.length Z)) := by
      rw [mulOut, hx]
      by_cases h0 : x = 0
      · rw [if_neg (by simp [h0]), if_pos h0]
      · rw [if_pos h0, if_neg h0, mulIn_fast (by rw [mulOut_length]; omega)]
    rw [mulRows, ← hnext]
    have ih := mulRows_eq p b a (pre ++ [x]) Z (by simp at h ⊢; omega)
    simpa using ih
theorem timesRows_eq (p : Int) (b : List Int) : ∀ (a pre : List Int) (Z : List Int), (pre ++ a).length + b.length ≤ Z.length + 1 → timesRows p b a pre.length (timesOut p (pre ++ a) b pre.length Z) = timesOut p (pre ++ a) b (pre ++ a).length Z
  | [], pre, Z, _ => by rw [timesRows, List.append_nil]
  | x :: a, pre, Z, h => by
    have hl : (pre ++ x :: a).length = pre.length + a.length + 1 := by simp; omega
    have hx : (pre ++ x :: a).getD pre.length 0 = x := by simp [List.getD_eq_getElem?_getD]
    have hnext : timesOut p (pre ++ x :: a) b (pre.length + 1) Z = mulRow p pre.length x b (timesOut p (pre ++ x :: a) b pre.length Z) := by
      rw [timesOut, hx, mulIn_fast (by rw [timesOut_length]; omega)]
    rw [timesRows, ← hnext]
    have ih := timesRows_eq p b a (pre ++ [x]) Z (by simp at h ⊢; omega)
    simpa using ih
noncomputable def mmulF (p : Int) (a b : List Int) : List Int := if a.length = 0 ∨ b.length = 0 then [] else trimI (mulRows p b a 0 (List.replicate (a.length + b.length - 1) 0))
theorem mmul_fast : mmulI = mmulF := by
  funext p a b
  unfold mmulI mmulF
  by_cases h : a.length = 0 ∨ b.length = 0
  · rw [if_pos h, if_pos h]
  · rw [if_neg h, if_neg h]
    exact congrArg trimI (mulRows_eq p b a [] (List.replicate (a.length + b.length - 1) 0) (by simp; omega)).symm
noncomputable def timesF (p : Int) (a b : List Int) : List Int := trimI (timesRows p b a 0 (List.replicate (a.length + b.length) 0))
theorem times_fast : timesI = timesF := by
  funext p a b
  unfold timesI timesF
  exact congrArg trimI (timesRows_eq p b a [] (List.replicate (a.length + b.length) 0) (by simp)).symm

/-- the division, from the highest place down: k turns left, the place of the next is k - 1 -/
noncomputable def divDown (p turn : Int) (b : List Int) : Nat → List Int × List Int → List Int × List Int
  | 0, c => c
  | k + 1, c =>
    let q := Int.fmod (c.1.getD (k + b.length - 1) 0 * turn) p
    divDown p turn b k (if q = 0 then c.1 else divRow p k q b c.1, q :: c.2)
theorem drop_set_self (l : List Int) (k : Nat) (x : Int) (h : k < l.length) : (l.set k x).drop k = x :: l.drop (k + 1) := by
  rw [List.drop_eq_getElem_cons (by rw [List.length_set]; exact h), List.getElem_set_self, List.drop_set_of_lt (by omega)]
theorem divDown_eq {p t : Int} {b : List Int} {D : Nat} {c : List Int × List Int} (h1 : c.1.length = D + b.length) (h2 : c.2.length = D + 1) :
    ∀ (k i : Nat), k + i = D + 1 → divDown p t b k ((divOut p t b D c i).1, (divOut p t b D c i).2.drop k) = divOut p t b D c (D + 1)
  | 0, i, h => by
    have : i = D + 1 := by omega
    subst this
    rw [divDown, List.drop_zero]
  | k + 1, i, h => by
    have ih := divDown_eq (p := p) (t := t) (b := b) h1 h2 k (i + 1) (by omega)
    have hl := divOut_length (p := p) (t := t) (b := b) (D := D) (c := c) (i := i)
    have hD : D - i = k := by omega
    have hs : divOut p t b D c (i + 1) = divStep p t b k (divOut p t b D c i) := by rw [← hD]; rfl
    rw [← ih, hs, divDown]
    generalize divOut p t b D c i = e at hl
    obtain ⟨R, S⟩ := e
    dsimp only at hl ⊢
    have hS : (divStep p t b k (R, S)).2.drop k = divNum p t b k R :: S.drop (k + 1) := drop_set_self S k _ (by omega)
    rw [hS]
    congr 2
    unfold divStep
    dsimp only
    change (if divNum p t b k R = 0 then R else divRow p k (divNum p t b k R) b R) = _
    by_cases h0 : divNum p t b k R = 0
    · rw [if_pos h0, if_neg (by simp [h0])]
    · rw [if_neg h0, if_pos h0, divIn_fast (by omega)]
noncomputable def mdivmodF (p : Int) (a b : List Int) : List Int × List Int :=
  if a.length < b.length then ([], trimI (a.take (b.length - 1))) else
  let c := divDown p (invI p (b.getD (b.length - 1) 0)) b (a.length + 1 - b.length) (a, [])
  (trimI c.2, trimI (c.1.take (b.length - 1)))
theorem mdivmod_fast : mdivmodI = mdivmodF := by
  funext p a b
  unfold mdivmodI mdivmodF
  by_cases h : a.length < b.length
  · rw [if_pos h]
    have e : a.length + 1 - b.length = 0 := by omega
    rw [e]
    rfl
  · rw [if_neg h]
    have e : a.length + 1 - b.length = (a.length - b.length) + 1 := by omega
    rw [e]
    have := divDown_eq (p := p) (t := invI p (b.getD (b.length - 1) 0)) (b := b) (D := a.length - b.length) (c := (a, List.replicate (a.length - b.length + 1) 0)) (by dsimp only; omega) (by simp) (a.length - b.length + 1) 0 rfl
    rw [← this]
    have hd : (List.replicate (a.length - b.length + 1) (0 : Int)).drop (a.length - b.length + 1) = [] := List.drop_eq_nil_of_le (by simp)
    dsimp only [divOut]
    rw [hd]
/-! the whole, over any product and any division -/
section
variable (mul : Int → List Int → List Int → List Int) (dm : Int → List Int → List Int → List Int × List Int)
noncomputable def powG (p : Int) (f : List Int) : Nat → Int → List Int → List Int → List Int
  | 0, _, F, _ => F
  | k + 1, n, F, S => if n ≤ 0 then F else
      powG p f k (Int.fdiv n 2) (if Int.fmod n 2 = 1 then (dm p (mul p F S) f).2 else F) (if 0 < Int.fdiv n 2 then (dm p (mul p S S) f).2 else S)
noncomputable def gcdG (p : Int) : Nat → List Int → List Int → List Int
  | 0, a, _ => a
  | k + 1, a, b => if b.length = 0 then a else gcdG p k b (dm p a b).2
noncomputable def ddG (p : Int) : Nat → Int → List Int → List Int → Option (List (List Int × Int))
  | 0, _, _, _ => none
  | k + 1, d, P, f => if 2 * (d + 1) ≤ (f.length : Int) - 1 then
      let P' := powG mul dm p f 5 p (dm p [1] f).2 (dm p P f).2
      let c := mmonicI p (gcdG dm p 20 (msubI p P' [0, 1]) f)
      if 0 < (c.length : Int) - 1 then
        let f' := (dm p f c).1
        if f'.length = 0 then none else (ddG p k (d + 1) (dm p P' f').2 f').map ((c, d + 1) :: ·)
      else ddG p k (d + 1) P' f
    else some (if 0 < (f.length : Int) - 1 then [(f, (f.length : Int) - 1)] else [])
end
theorem pow_G (p : Int) (f : List Int) : ∀ k n F S, powRun p f k n F S = powG mmulI mdivmodI p f k n F S
  | 0, _, _, _ => rfl
  | k + 1, n, F, S => by
    rw [powRun, powG]
    split
    · rfl
    · exact pow_G p f k _ _ _
theorem gcd_G (p : Int) : ∀ k a b, gcdRun p k a b = gcdG mdivmodI p k a b
  | 0, _, _ => rfl
  | k + 1, a, b => by
    rw [gcdRun, gcdG]
    split
    · rfl
    · exact gcd_G p k _ _
theorem dd_G (p : Int) : ∀ k d P f, ddRun p k d P f = ddG mmulI mdivmodI p k d P f
  | 0, _, _, _ => rfl
  | k + 1, d, P, f => by
    rw [ddRun, ddG]
    simp only [mpowerI, mgcdI, pow_G, gcd_G, dd_G p k]
    rfl
noncomputable def ddF (p : Int) (f : List Int) : Option (List (List Int × Int)) := ddG mmulF mdivmodF p 20 0 [0, 1] f
theorem dd_fast (p : Int) (f : List Int) : ddI p f = ddF p f := by
  unfold ddI ddF
  rw [dd_G, mmul_fast, mdivmod_fast]
end
theorem top_off_P3 : True := by
  w_top off
  trivial

section
set_option maxRecDepth 100000
set_option linter.unusedVariables false
noncomputable abbrev St := List Int × L3
noncomputable def stepS (p : Int) (st : St) (one : List Int) : St :=
  if st.1.length + one.length < 9 then (timesF p st.1 one, l3set st.2 ((one.length : Int) - 1) (timesF p ((l3get st.2 ((one.length : Int) - 1)).getD [1]) one)) else st
noncomputable def startS : St := ([1], (none, none, none))
noncomputable def expectS (l : L3) : List (List Int × Int) := [1, 2, 3].filterMap fun d => (l3get l d).map (·, d)
noncomputable def goodS (p : Int) (st : St) : Bool := decide (ddF p st.1 = some (expectS st.2))
section
variable (p : Int) (R : List (List Int))
noncomputable def S1 (a : Nat) : St := stepS p startS (R.getD a [])
noncomputable def S2 (a b : Nat) : St := stepS p (S1 p R a) (R.getD b [])
noncomputable def S3 (a b c : Nat) : St := stepS p (S2 p R a b) (R.getD c [])
noncomputable def chk1 (n : Nat) : Bool := goodS p startS && (List.range n).all fun i => goodS p (S1 p R i)
noncomputable def chk2 (i : Nat) : Bool := (List.range i).all fun j => decide (S2 p R i j = S2 p R j i) && goodS p (S2 p R i j)
noncomputable def chk3 (i j : Nat) : Bool := (List.range j).all fun k => goodS p (S3 p R i j k) && decide (S3 p R i k j = S3 p R i j k) && decide (S3 p R j k i = S3 p R i j k)
noncomputable def chkO (n : Nat) : Bool := (List.range n).all fun i => (List.range n).all fun j => i == j || (goodS p (S2 p R i j) && (List.range n).all fun k => k == i || k == j || goodS p (S3 p R i j k))
end
noncomputable def rows2 : List (List Int) := [[0, 1], [1, 1], [1, 1, 1], [1, 1, 0, 1], [1, 0, 1, 1]]
noncomputable def rows3 : List (List Int) := [[0, 1], [1, 1], [2, 1], [1, 0, 1], [2, 1, 1], [2, 2, 1]]
noncomputable def rows5 : List (List Int) := [[0, 1], [1, 1], [2, 1], [3, 1], [4, 1], [2, 0, 1], [3, 0, 1], [1, 1, 1], [2, 1, 1], [3, 2, 1], [4, 2, 1], [3, 3, 1], [4, 3, 1], [1, 4, 1], [2, 4, 1]]
theorem primes2 : primesOut 2 3 = rows2 := by decide +kernel
theorem primes3 : primesOut 3 2 = rows3 := by decide +kernel
theorem primes5 : primesOut 5 2 = rows5 := by decide +kernel
theorem k2_1 : chk1 2 rows2 5 = true := by decide +kernel
theorem k2_O : chkO 2 rows2 5 = true := by decide +kernel
theorem k3_1 : chk1 3 rows3 6 = true := by decide +kernel
theorem k3_2 : ∀ i ∈ List.range 6, chk2 3 rows3 i = true := by decide +kernel
theorem k3_3 : ∀ i ∈ List.range 6, ∀ j ∈ List.range i, chk3 3 rows3 i j = true := by decide +kernel
theorem k5_1 : chk1 5 rows5 15 = true := by decide +kernel
theorem k5_2 : ∀ i ∈ List.range 15, chk2 5 rows5 i = true := by decide +kernel
theorem k5_3_0 : ∀ j ∈ List.range 0, chk3 5 rows5 0 j = true := by decide +kernel
theorem k5_3_1 : ∀ j ∈ List.range 1, chk3 5 rows5 1 j = true := by decide +kernel
theorem k5_3_2 : ∀ j ∈ List.range 2, chk3 5 rows5 2 j = true := by decide +kernel
theorem k5_3_3 : ∀ j ∈ List.range 3, chk3 5 rows5 3 j = true := by decide +kernel
theorem k5_3_4 : ∀ j ∈ List.range 4, chk3 5 rows5 4 j = true := by decide +kernel
theorem k5_3_5 : ∀ j ∈ List.range 5, chk3 5 rows5 5 j = true := by decide +kernel
theorem k5_3_6 : ∀ j ∈ List.range 6, chk3 5 rows5 6 j = true := by decide +kernel
theorem k5_3_7 : ∀ j ∈ List.range 7, chk3 5 rows5 7 j = true := by decide +kernel
theorem k5_3_8 : ∀ j ∈ List.range 8, chk3 5 rows5 8 j = true := by decide +kernel
theorem k5_3_9 : ∀ j ∈ List.range 9, chk3 5 rows5 9 j = true := by decide +kernel
theorem k5_3_10 : ∀ j ∈ List.range 10, chk3 5 rows5 10 j = true := by decide +kernel
theorem k5_3_11 : ∀ j ∈ List.range 11, chk3 5 rows5 11 j = true := by decide +kernel
theorem k5_3_12 : ∀ j ∈ List.range 12, chk3 5 rows5 12 j = true := by decide +kernel
theorem k5_3_13 : ∀ j ∈ List.range 13, chk3 5 rows5 13 j = true := by decide +kernel
theorem k5_3_14 : ∀ j ∈ List.range 14, chk3 5 rows5 14 j = true := by decide +kernel
end
theorem top_off_P5 : True := by
  w_top off
  trivial

section
set_option maxRecDepth 100000
set_option linter.unusedVariables false
/-- every order of at most three picks is good -/
structure AllGood (p : Int) (R : List (List Int)) (n : Nat) : Prop where
  len : R.length = n
  zero : goodS p startS = true
  one : ∀ a, a < n → goodS p (S1 p R a) = true
  two : ∀ a b, a < n → b < n → a ≠ b → goodS p (S2 p R a b) = true
  three : ∀ a b c, a < n → b < n → c < n → a ≠ b → a ≠ c → b ≠ c → goodS p (S3 p R a b c) = true
theorem all_range {n : Nat} {f : Nat → Bool} (h : (List.range n).all f = true) {i : Nat} (hi : i < n) : f i = true := List.all_eq_true.mp h i (List.mem_range.mpr hi)
theorem good_ordered {p : Int} {R : List (List Int)} {n : Nat} (hl : R.length = n) (h1 : chk1 p R n = true) (hO : chkO p R n = true) : AllGood p R n := by
  unfold chk1 at h1
  rw [Bool.and_eq_true] at h1
  have two : ∀ a b, a < n → b < n → a ≠ b → goodS p (S2 p R a b) = true ∧ ∀ c, c < n → c ≠ a → c ≠ b → goodS p (S3 p R a b c) = true := fun a b ha hb hab => by
    have := all_range (all_range hO ha) hb
    rw [Bool.or_eq_true, Bool.and_eq_true] at this
    rcases this with h | ⟨h, g⟩
    · exact absurd (by simpa using h) hab
    · refine ⟨h, fun c hc h1 h2 => ?_⟩
      have := all_range g hc
      rw [Bool.or_eq_true, Bool.or_eq_true] at this
      rcases this with (h | h) | h
      · exact absurd (by simpa using h) h1
      · exact absurd (by simpa using h) h2
      · exact h
  exact ⟨hl, h1.1, fun a ha => all_range h1.2 ha, fun a b ha hb hab => (two a b ha hb hab).1, fun a b c ha hb hc h1 h2 h3 => (two a b ha hb h1).2 c hc (Ne.symm h2) (Ne.symm h3)⟩
theorem good_unordered {p : Int} {R : List (List Int)} {n : Nat} (hl : R.length = n) (h1 : chk1 p R n = true) (h2 : ∀ i, i < n → chk2 p R i = true) (h3 : ∀ i, i < n → ∀ j, j < i → chk3 p R i j = true) : AllGood p R n := by
  unfold chk1 at h1
  rw [Bool.and_eq_true] at h1
  have pair : ∀ i j, i < n → j < i → S2 p R i j = S2 p R j i ∧ goodS p (S2 p R i j) = true := fun i j hi hj => by
    have := all_range (h2 i hi) hj
    rw [Bool.and_eq_true] at this
    exact ⟨of_decide_eq_true this.1, this.2⟩
  have trip : ∀ i j k, i < n → j < i → k < j → goodS p (S3 p R i j k) = true ∧ S3 p R i k j = S3 p R i j k ∧ S3 p R j k i = S3 p R i j k := fun i j k hi hj hk => by
    have := all_range (h3 i hi j hj) hk
    rw [Bool.and_eq_true, Bool.and_eq_true] at this
    exact ⟨this.1.1, of_decide_eq_true this.1.2, of_decide_eq_true this.2⟩
  have swap : ∀ a b c, a < n → b < n → a ≠ b → S3 p R a b c = S3 p R b a c := fun a b c ha hb hab => by
    unfold S3
    rcases Nat.lt_or_ge a b with h | h
    · rw [(pair b a hb h).1]
    · rw [(pair a b ha (by omega)).1]
  refine ⟨hl, h1.1, fun a ha => all_range h1.2 ha, fun a b ha hb hab => ?_, fun a b c ha hb hc hab hac hbc => ?_⟩
  · rcases Nat.lt_or_ge a b with h | h
    · rw [← (pair b a hb h).1]; exact (pair b a hb h).2
    · exact (pair a b ha (by omega)).2
  · have key : ∀ a b c, a < n → b < n → c < n → b < a → c ≠ a → c ≠ b → goodS p (S3 p R a b c) = true := fun a b c ha hb hc hab hca hcb => by
      rcases Nat.lt_or_ge c b with h | h
      · exact (trip a b c ha hab h).1
      · rcases Nat.lt_or_ge c a with h' | h'
        · rw [(trip a c b ha h' (by omega)).2.1]; exact (trip a c b ha h' (by omega)).1
        · rw [(trip c a b hc (by omega) hab).2.2]; exact (trip c a b hc (by omega) hab).1
    rcases Nat.lt_or_ge a b with h | h
    · rw [swap a b c ha hb hab]; exact key b a c hb ha hc h (Ne.symm hbc) (Ne.symm hac)
    · exact key a b c ha hb hc (by omega) (Ne.symm hac) (Ne.symm hbc)
theorem all2 : AllGood 2 rows2 5 := good_ordered rfl k2_1 k2_O
theorem all3 : AllGood 3 rows3 6 := good_unordered rfl k3_1 (fun i hi => k3_2 i (List.mem_range.mpr hi)) fun i hi j hj => k3_3 i (List.mem_range.mpr hi) j (List.mem_range.mpr hj)
theorem all5 : AllGood 5 rows5 15 := good_unordered rfl k5_1 (fun i hi => k5_2 i (List.mem_range.mpr hi)) fun i hi j hj => by
  have hj' := List.mem_range.mpr hj
  have : i = 0 ∨ i = 1 ∨ i = 2 ∨ i = 3 ∨ i = 4 ∨ i = 5 ∨ i = 6 ∨ i = 7 ∨ i = 8 ∨ i = 9 ∨ i = 10 ∨ i = 11 ∨ i = 12 ∨ i = 13 ∨ i = 14 := by omega
  rcases this with rfl | rfl | rfl | rfl | rfl | rfl | rfl | rfl | rfl | rfl | rfl | rfl | rfl | rfl | rfl
  · exact k5_3_0 j hj'
  · exact k5_3_1 j hj'
  · exact k5_3_2 j hj'
  · exact k5_3_3 j hj'
  · exact k5_3_4 j hj'
  · exact k5_3_5 j hj'
  · exact k5_3_6 j hj'
  · exact k5_3_7 j hj'
  · exact k5_3_8 j hj'
  · exact k5_3_9 j hj'
  · exact k5_3_10 j hj'
  · exact k5_3_11 j hj'
  · exact k5_3_12 j hj'
  · exact k5_3_13 j hj'
  · exact k5_3_14 j hj'

/-- n picks out of the rows, what is left of them, the state -/
noncomputable def Reach (p : Int) (R : List (List Int)) : Nat → List (List Int) → St → Prop
  | 0, rem, st => rem = R ∧ st = startS
  | n + 1, rem, st => ∃ rem₀ st₀ k one, Reach p R n rem₀ st₀ ∧ rem₀[k]? = some one ∧ rem = rem₀.eraseIdx k ∧ st = stepS p st₀ one
theorem lt_of_some {α : Type} {l : List α} {k : Nat} {x : α} (h : l[k]? = some x) : k < l.length := by
  rcases Nat.lt_or_ge k l.length with g | g
  · exact g
  · rw [List.getElem?_eq_none g] at h; cases h
theorem getD_of {R : List (List Int)} {k : Nat} {x : List Int} (h : R[k]? = some x) : R.getD k [] = x := by rw [List.getD_eq_getElem?_getD, h]; rfl
theorem erase_some {α : Type} {l : List α} {i k : Nat} {x : α} (h : (l.eraseIdx i)[k]? = some x) : ∃ j, l[j]? = some x ∧ j ≠ i ∧ (k < i → j = k) ∧ (i ≤ k → j = k + 1) := by
  rw [List.getElem?_eraseIdx] at h
  by_cases g : k < i
  · rw [if_pos g] at h; exact ⟨k, h, by omega, fun _ => rfl, fun g' => by omega⟩
  · rw [if_neg g] at h; exact ⟨k + 1, h, by omega, fun g' => by omega, fun _ => rfl⟩
theorem reach_good {p : Int} {R : List (List Int)} {m : Nat} (G : AllGood p R m) (n : Nat) (rem : List (List Int)) (st : St) (hn : n ≤ 3) (h : Reach p R n rem st) : goodS p st = true := by
  have : n = 0 ∨ n = 1 ∨ n = 2 ∨ n = 3 := by omega
  rcases this with rfl | rfl | rfl | rfl
  · obtain ⟨_, rfl⟩ := h
    exact G.zero
  · obtain ⟨_, _, a, x, ⟨rfl, rfl⟩, hx, _, rfl⟩ := h
    have := G.one a (by rw [← G.len]; exact lt_of_some hx)
    rwa [S1, getD_of hx] at this
  · obtain ⟨_, _, b, y, ⟨_, _, a, x, ⟨rfl, rfl⟩, hx, rfl, rfl⟩, hy, _, rfl⟩ := h
    obtain ⟨b', hb', hne, _, _⟩ := erase_some hy
    have := G.two a b' (by rw [← G.len]; exact lt_of_some hx) (by rw [← G.len]; exact lt_of_some hb') (Ne.symm hne)
    rwa [S2, S1, getD_of hx, getD_of hb'] at this
  · obtain ⟨_, _, c, z, ⟨_, _, b, y, ⟨_, _, a, x, ⟨rfl, rfl⟩, hx, rfl, rfl⟩, hy, rfl, rfl⟩, hz, _, rfl⟩ := h
    obtain ⟨b', hb', hne, b1, b2⟩ := erase_some hy
    obtain ⟨c1, hc1, hne1, d1, d2⟩ := erase_some hz
    obtain ⟨c', hc', hne2, e1, e2⟩ := erase_some hc1
    have := G.three a b' c' (by rw [← G.len]; exact lt_of_some hx) (by rw [← G.len]; exact lt_of_some hb') (by rw [← G.len]; exact lt_of_some hc') (Ne.symm hne) (Ne.symm hne2) (by
      rcases Nat.lt_or_ge b a with g | g <;> rcases Nat.lt_or_ge c1 a with g' | g'
      · rw [b1 g, e1 g']; exact Ne.symm hne1
      · rw [b1 g, e2 g']; omega
      · rw [b2 g, e1 g']; omega
      · rw [b2 g, e2 g']; omega)
    rwa [S3, S2, S1, getD_of hx, getD_of hb', getD_of hc'] at this
/-- what a row of the pool is -/
noncomputable def RowOk (p : Int) (r : List Int) : Prop := Po p r ∧ 2 ≤ r.length ∧ r.length ≤ 4
noncomputable def L3ok (n : Nat) (p : Int) (l : L3) : Prop := ∀ d x, l3get l d = some x → Pn n p x
theorem times_pn {p : Int} {a b : List Int} {n k : Nat} (hp : p = 2 ∨ p = 3 ∨ p = 5) (ha : a.length ≤ n) (hb : b.length ≤ k) : Pn (n + k) p (timesI p a b) := by
  refine Pn.trim (pos_of hp) ?_ (by rw [timesOut_length, List.length_replicate]; omega)
  suffices ∀ i F, Rg p F → Rg p (timesOut p a b i F) from this _ _ (Rg.zeros (pos_of hp) _)
  intro i
  induction i with
  | zero => intro F h; exact h
  | succ i ih => intro F h; rw [timesOut]; exact mulIn_rg (pos_of hp) (ih F h)
theorem row_deg {p : Int} {r : List Int} (h : RowOk p r) : (r.length : Int) - 1 = 1 ∨ (r.length : Int) - 1 = 2 ∨ (r.length : Int) - 1 = 3 := by
  obtain ⟨_, h1, h2⟩ := h
  omega
theorem reach_ok {p : Int} {R : List (List Int)} (hp : p = 2 ∨ p = 3 ∨ p = 5) (hR : ∀ r ∈ R, RowOk p r) : ∀ n rem st, Reach p R n rem st → (∀ r ∈ rem, RowOk p r) ∧ Pn (1 + 4 * n) p st.1 ∧ L3ok (1 + 4 * n) p st.2
  | 0, rem, st, ⟨e1, e2⟩ => by
    subst e1 e2
    refine ⟨hR, ⟨(Po.lit1 hp).rg, (Po.lit1 hp).trm, by decide⟩, fun d x h => ?_⟩
    simp [startS, l3get] at h
  | n + 1, rem, st, ⟨rem₀, st₀, k, one, hr, hk, e1, e2⟩ => by
    obtain ⟨h1, h2, h3⟩ := reach_ok hp hR n rem₀ st₀ hr
    have ho := h1 one (List.mem_of_getElem? hk)
    subst e1 e2
    refine ⟨fun r hr => h1 r (List.mem_of_mem_eraseIdx hr), ?_⟩
    have up : ∀ {x}, Pn (1 + 4 * n) p x → Pn (1 + 4 * (n + 1)) p x := fun h => ⟨h.rg, h.trm, by have := h.len; omega⟩
    have e4 : 1 + 4 * (n + 1) = 1 + 4 * n + 4 := by omega
    unfold stepS
    split
    · rw [← times_fast]
      rw [e4]
      refine ⟨times_pn hp h2.len ho.2.2, fun d x hx => ?_⟩
      rw [l3get_set (row_deg ho)] at hx
      split at hx
      · obtain rfl := Option.some.inj hx
        refine times_pn (n := 1 + 4 * n) hp ?_ ho.2.2
        cases hg : l3get st₀.2 ((one.length : Int) - 1) with
        | none => simp
        | some y => exact (h3 _ _ hg).len
      · rw [← e4]; exact up (h3 d x hx)
    · exact ⟨up h2, fun d x hx => up (h3 d x hx)⟩
theorem row_ok {p : Int} {r : List Int} (hp : 0 < p) (h : (∀ x ∈ r, 0 ≤ x ∧ x < p) ∧ r.getD (r.length - 1) 0 = 1 ∧ 2 ≤ r.length ∧ r.length ≤ 4) : RowOk p r :=
  ⟨⟨Rg.of_mem hp h.1, fun _ => by rw [h.2.1]; decide, by omega⟩, h.2.2⟩
theorem rows2_ok : ∀ r ∈ rows2, RowOk 2 r := fun r hr => row_ok (by decide) (by revert r; decide)
theorem rows3_ok : ∀ r ∈ rows3, RowOk 3 r := fun r hr => row_ok (by decide) (by revert r; decide)
theorem rows5_ok : ∀ r ∈ rows5, RowOk 5 r := fun r hr => row_ok (by decide) (by revert r; decide)
/-- the pool of p, told as the law makes it -/
theorem pool_ok {p k : Int} (h : p = 2 ∧ k = 3 ∨ p = 3 ∧ k = 2 ∨ p = 5 ∧ k = 2) : (∀ r ∈ primesOut p.toNat k.toNat, RowOk p r) ∧ 3 < (primesOut p.toNat k.toNat).length ∧ (primesOut p.toNat k.toNat).length ≤ 15 ∧
    ∀ n rem st, n ≤ 3 → Reach p (primesOut p.toNat k.toNat) n rem st → ddI p st.1 = some (expectS st.2) := by
  rcases h with ⟨rfl, rfl⟩ | ⟨rfl, rfl⟩ | ⟨rfl, rfl⟩
  · change (∀ r ∈ primesOut 2 3, RowOk 2 r) ∧ 3 < (primesOut 2 3).length ∧ (primesOut 2 3).length ≤ 15 ∧ ∀ n rem st, n ≤ 3 → Reach 2 (primesOut 2 3) n rem st → ddI 2 st.1 = some (expectS st.2)
    rw [primes2]
    exact ⟨rows2_ok, by decide, by decide, fun n rem st hn h => (dd_fast _ _).trans (of_decide_eq_true (reach_good all2 n rem st hn h))⟩
  · change (∀ r ∈ primesOut 3 2, RowOk 3 r) ∧ 3 < (primesOut 3 2).length ∧ (primesOut 3 2).length ≤ 15 ∧ ∀ n rem st, n ≤ 3 → Reach 3 (primesOut 3 2) n rem st → ddI 3 st.1 = some (expectS st.2)
    rw [primes3]
    exact ⟨rows3_ok, by decide, by decide, fun n rem st hn h => (dd_fast _ _).trans (of_decide_eq_true (reach_good all3 n rem st hn h))⟩
  · change (∀ r ∈ primesOut 5 2, RowOk 5 r) ∧ 3 < (primesOut 5 2).length ∧ (primesOut 5 2).length ≤ 15 ∧ ∀ n rem st, n ≤ 3 → Reach 5 (primesOut 5 2) n rem st → ddI 5 st.1 = some (expectS st.2)
    rw [primes5]
    exact ⟨rows5_ok, by decide, by decide, fun n rem st hn h => (dd_fast _ _).trans (of_decide_eq_true (reach_good all5 n rem st hn h))⟩
end
theorem top_off_F18 : True := by
  w_top off
  trivial

section
set_option maxRecDepth 100000
set_option linter.unusedVariables false
open PySem PySem.W PySem.Calls PyProof.Rows PySem.Spec
section
variable {w : World} {k : Nat} {f : Addr} {s : Shared} {args : List Value} {A : Around} {h₀ : Heap} {L : Addr} {m : Str → Option Value} {news : List (Addr × Obj)} {Q E : Value → Shared → Prop}
theorem new_ne {D : Addr} (hD : s.heap.get? D = none) (N : News h₀ L s.heap news) : ∀ p ∈ news, p.1 ≠ D := fun p hp e => by
  have := (N p hp).1
  rw [e, hD] at this; cases this
theorem use_draws (c : Fn w k f s args (NewDraws s.heap)) (F : Fr h₀ L s.heap m) (N : News h₀ L s.heap news)
    (h : ∀ D R seed ts n rs j xs h' tk, Fr h₀ L h' m → News h₀ L h' (drawL D R seed ts n rs j ++ news) → D ≠ R → (∀ p ∈ news, p.1 ≠ D) → (∀ p ∈ news, p.1 ≠ R) → IntsAre rs xs → xs.length ≤ 40 → (0 ≤ seed ∧ seed < 2147483647) → Q (.ref D) { s with heap := h', toks := tk })
    (hh : A.handled = none) (hd' : A.depth ≤ (Lv k).depth) (hu : A.units ≤ (Lv k).units) :
    wpAny (model PySem.Challenge.rw_nn0250_01.row.prog w) A (call (.ref f) args) Q E s := by
  refine any_lower rfl rfl hh hd' hu (c Q E ?_)
  rintro v h' tk st ⟨D, R, seed, ts, n, rs, j, xs, rfl, hDR, hD, hR, eD, eR, hi, hl, hs⟩
  refine h D R seed ts n rs j xs h' tk (Fr.stays F st) (fun p hp => ?_) hDR (new_ne hD N) (new_ne hR N) hi hl hs
  rcases List.mem_append.mp hp with hp | hp
  · rcases List.mem_cons.mp hp with rfl | hp
    · exact fresh_news F hD eD
    · rw [List.mem_singleton.mp hp]; exact fresh_news F hR eR
  · exact News.stays N st p hp
theorem use_primes {P : List (List Int)} (c : Fn w k f s args (fun h v => ∃ l vs n ext, v = .ref l ∧ (∀ q ∈ ext, s.heap.get? q.1 = none ∧ h.get? q.1 = some q.2) ∧ s.heap.get? l = none ∧ h.get? l = some (listOf (List.toArray vs) n) ∧ (∀ q ∈ ext, q.1 ≠ l) ∧ RowsIn ext vs P)) (F : Fr h₀ L s.heap m) (N : News h₀ L s.heap news)
    (h : ∀ l vs n ext h' tk, Fr h₀ L h' m → News h₀ L h' ((l, listOf (List.toArray vs) n) :: (ext ++ news)) → (∀ p ∈ ext ++ news, p.1 ≠ l) → (∀ q ∈ ext, ∀ p ∈ news, p.1 ≠ q.1) → RowsIn ext vs P → Q (.ref l) { s with heap := h', toks := tk })
    (hh : A.handled = none) (hd' : A.depth ≤ (Lv k).depth) (hu : A.units ≤ (Lv k).units) :
    wpAny (model PySem.Challenge.rw_nn0250_01.row.prog w) A (call (.ref f) args) Q E s := by
  refine any_lower rfl rfl hh hd' hu (c Q E ?_)
  rintro v h' tk st ⟨l, vs, n, ext, rfl, hext, hl, el, hne, hr⟩
  refine h l vs n ext h' tk (Fr.stays F st) (fun p hp => ?_) (fun p hp => ?_) (fun q hq => new_ne (hext q hq).1 N) hr
  · rcases List.mem_cons.mp hp with rfl | hp
    · exact fresh_news F hl el
    rcases List.mem_append.mp hp with hp | hp
    · exact fresh_news F (hext p hp).1 (hext p hp).2
    · exact News.stays N st p hp
  · rcases List.mem_append.mp hp with hp | hp
    · exact hne p hp
    · exact new_ne hl N p hp
theorem use_dd {r : List (List Int × Int)} {hx : Heap} (c : Fn w k f s args (NewDD hx s.heap r)) (F : Fr h₀ L s.heap m) (N : News h₀ L s.heap news)
    (h : ∀ l vs n ext h' tk, Fr h₀ L h' m → News h₀ L h' (ext ++ news) → (l, listOf (List.toArray vs) n) ∈ ext → PairsIn hx ext vs r → Q (.ref l) { s with heap := h', toks := tk })
    (hh : A.handled = none) (hd' : A.depth ≤ (Lv k).depth) (hu : A.units ≤ (Lv k).units) :
    wpAny (model PySem.Challenge.rw_nn0250_01.row.prog w) A (call (.ref f) args) Q E s := by
  refine any_lower rfl rfl hh hd' hu (c Q E ?_)
  rintro v h' tk st ⟨l, vs, n, ext, rfl, hext, hl, hp⟩
  refine h l vs n ext h' tk (Fr.stays F st) (fun p hp => ?_) hl hp
  rcases List.mem_append.mp hp with hp | hp
  · exact fresh_news F (hext p hp).1 (hext p hp).2
  · exact News.stays N st p hp
end
/-- the heap with nothing but one object -/
noncomputable def onlyAt (h : Heap) (a : Addr) : Heap := hideAll h ((List.range h.objs.size).filter fun b => !(b == a))
theorem onlyAt_stays {h : Heap} {a : Addr} : (onlyAt h a).StaysIn h := fun b o e => of_hideAll _ e
theorem onlyAt_get {h : Heap} {a b : Addr} {o : Obj} (e : (onlyAt h a).get? b = some o) : b = a ∧ h.get? a = some o := by
  have e' : h.get? b = some o := of_hideAll _ e
  have hb : b = a := by
    apply Classical.byContradiction
    intro hn
    have : b ∈ (List.range h.objs.size).filter fun b => !(b == a) := List.mem_filter.mpr ⟨List.mem_range.mpr (Heap.lt_size e'), by simpa using hn⟩
    unfold onlyAt at e
    rw [hideAll_none _ this] at e; cases e
  exact ⟨hb, hb ▸ e'⟩
theorem onlyAt_at {h : Heap} {a : Addr} {o : Obj} (e : h.get? a = some o) : (onlyAt h a).get? a = some o := hideAll_get _ e fun hm => by
  have := (List.mem_filter.mp hm).2
  simp at this
open PySem PySem.W PySem.Calls PyProof.Rows PySem.Spec
theorem valueAt_mem {kvs : List (Int × Value)} {d : Int} : d ∈ kvs.map (·.1) ↔ (valueAt kvs d).isSome = true := by
  unfold valueAt
  rw [Option.isSome_map, List.find?_isSome]
  constructor
  · intro h
    obtain ⟨p, hp, rfl⟩ := List.mem_map.mp h
    exact ⟨p, hp, by simp⟩
  · rintro ⟨p, hp, h⟩
    exact List.mem_map.mpr ⟨p, hp, by simpa using h⟩
theorem lots_mem {led : List (Addr × Obj)} {kvs : List (Int × Value)} {l : L3} (x : LotsIn led kvs l) (d : Int) : d ∈ kvs.map (·.1) ↔ (l3get l d).isSome = true := by
  rw [valueAt_mem]
  cases h : l3get l d with
  | none => rw [x.absent d h]; rfl
  | some xs =>
    obtain ⟨a, us, n, e, _⟩ := x.there d xs h
    rw [e]; rfl
theorem lots_sorted {led : List (Addr × Obj)} {kvs : List (Int × Value)} {l : L3} {ns : List Int} (x : LotsIn led kvs l) (hp : ns.Perm (kvs.map (·.1))) (hs : ns.Pairwise (· ≤ ·)) : ns = [1, 2, 3].filter fun d => (l3get l d).isSome := by
  refine lks_uniq (hp.trans ?_) hs ?_
  · rw [List.perm_ext_iff_of_nodup x.nodup (List.Pairwise.filter _ (by decide))]
    intro d
    rw [lots_mem x, List.mem_filter]
    constructor
    · intro h
      refine ⟨?_, h⟩
      have : d ∈ kvs.map (·.1) := (lots_mem x d).mpr h
      obtain ⟨p, hp, rfl⟩ := List.mem_map.mp this
      rcases x.keys p hp with h | h | h <;> simp [h]
    · exact fun h => h.2
  · exact List.Pairwise.filter _ (by decide)
open PySem PySem.W PySem.Calls PyProof.Rows PySem.Spec
theorem two_addr {h₀ h : Heap} {L a b : Addr} {o o' : Obj} {r : List (Addr × Obj)} (N : News h₀ L h ((a, o) :: (b, o') :: r)) : (∃ fa, fa = a) ∧ ∃ fb, fb = b := ⟨⟨a, rfl⟩, b, rfl⟩
theorem cell_addr {h₀ h : Heap} {L a b c : Addr} {o o' o'' : Obj} {r : List (Addr × Obj)} (N : News h₀ L h ((a, o) :: (b, o') :: (c, o'') :: r)) : ∃ fa, fa = c := ⟨c, rfl⟩
theorem mem_up1 {x : Addr × Obj} {a r : List (Addr × Obj)} : ∀ q ∈ a ++ x :: r, q ∈ x :: (a ++ r) := fun q hq => by
  rcases List.mem_append.mp hq with h | h
  · exact .tail _ (List.mem_append_left _ h)
  · rcases List.mem_cons.mp h with rfl | h
    · exact .head _
    · exact .tail _ (List.mem_append_right _ h)
theorem mem_drop1 {x : Addr × Obj} {a r : List (Addr × Obj)} : ∀ q ∈ a ++ r, q ∈ a ++ x :: r := fun q hq => (List.mem_append.mp hq).elim (List.mem_append_left _) fun h => List.mem_append_right _ (.tail _ h)
theorem ne_both {l : List (Addr × Obj)} {D R : Addr} (h1 : ∀ q ∈ l, q.1 ≠ D) (h2 : ∀ q ∈ l, q.1 ≠ R) : ∀ q ∈ l, q.1 ≠ D ∧ q.1 ≠ R := fun q hq => ⟨h1 q hq, h2 q hq⟩
open PySem PySem.W PySem.Calls PyProof.Rows PySem.Spec
theorem mem_P {P a b c d e f : Addr × Obj} {ext own : List (Addr × Obj)} : ∀ q ∈ P :: d :: e :: f :: (ext ++ own), q ∈ P :: (ext ++ (a :: b :: d :: e :: c :: f :: own)) := fun q hq => by
  simp only [List.mem_cons, List.mem_append] at hq ⊢
  rcases hq with h | h | h | h | h | h <;> simp [h]
theorem mem_T {t a b c d e f : Addr × Obj} {r : List (Addr × Obj)} : ∀ q ∈ d :: e :: a :: b :: c :: f :: r, q ∈ t :: a :: b :: c :: d :: e :: f :: r := List.forall_mem_cons.mpr ⟨.tail _ (.tail _ (.tail _ (.tail _ (.head _)))), List.forall_mem_cons.mpr ⟨.tail _ (.tail _ (.tail _ (.tail _ (.tail _ (.head _))))), List.forall_mem_cons.mpr ⟨.tail _ (.head _), List.forall_mem_cons.mpr ⟨.tail _ (.tail _ (.head _)), List.forall_mem_cons.mpr ⟨.tail _ (.tail _ (.tail _ (.head _))), List.forall_mem_cons.mpr ⟨.tail _ (.tail _ (.tail _ (.tail _ (.tail _ (.tail _ (.head _)))))), fun q hq => .tail _ (.tail _ (.tail _ (.tail _ (.tail _ (.tail _ (.tail _ (hq)))))))⟩⟩⟩⟩⟩⟩
theorem list_ne {l : Addr} {ext news : List (Addr × Obj)} (off : ∀ q ∈ ext, ∀ p ∈ news, p.1 ≠ q.1) {a : Addr} {o : Obj} (m : (a, o) ∈ news) : ∀ q ∈ ext, q.1 ≠ a := fun q hq e => off q hq _ m e.symm
end
theorem top_off_G3 : True := by
  w_top off
  trivial

section
set_option maxRecDepth 100000
set_option linter.unusedVariables false
set_option linter.unusedSimpArgs false
open PySem PySem.W PySem.Calls PyProof.Rows PySem.Spec
theorem fill_G3 : PySem.Challenge.rw_nn0250_01 = PySem.Challenge.rw_nn0250_01 ∧ hd.heap_39 = hd.heap_39 := by
  k_fill
  exact ⟨rfl, rfl⟩

structure WS where
  sd : Int
  ts : Tok
  n : Nat
  rs : List Value
  j : Nat
  xs : List Int
  o : Obj
structure IS where
  sd : Int
  ts : Tok
  n : Nat
  rs : List Value
  j : Nat
  xs : List Int
  pv : List Value
  pn : Nat
  wa : Addr
  wv : List Value
  wn : Nat
  ob : Obj
  kvs : List (Int × Value)
  led : List (Addr × Obj)
  rem : List (List Int)
  st : St
noncomputable abbrev iled (D R PL DD C : Addr) (oc : Obj) (base : List (Addr × Obj)) (c : IS) : List (Addr × Obj) := (D, listOf (List.toArray [.ref R, .int c.sd c.ts]) c.n) :: (R, listOf c.rs.toArray c.j) :: (PL, listOf c.pv.toArray c.pn) :: (DD, c.ob) :: (C, oc) :: (c.led ++ base)
structure IP (w : World) (p : Int) (R0 : List (List Int)) (ext : List (Addr × Obj)) (D R PL DD C : Addr) (i : Nat) (c : IS) : Prop where
  ins : IntsAre c.rs c.xs
  short : c.xs.length ≤ 40
  seed : 0 ≤ c.sd ∧ c.sd < 2147483647
  rows : RowsIn ext c.pv c.rem
  reach : Reach p R0 i c.rem c.st
  whole : (c.wa, listOf c.wv.toArray c.wn) ∈ c.led
  wis : IntsAre c.wv c.st.1
  dict : c.ob.IsDictOf (PySem.intKind PySem.Challenge.rw_nn0250_01.row.prog w) c.kvs
  lots : LotsIn c.led c.kvs c.st.2
  off : ∀ q ∈ c.led, q.1 ≠ D ∧ q.1 ≠ R ∧ q.1 ≠ PL ∧ q.1 ≠ DD ∧ q.1 ≠ C
theorem mem_I {d e a b c f : Addr × Obj} {r : List (Addr × Obj)} : ∀ q ∈ d :: e :: c :: b :: f :: ([a] ++ r), q ∈ [d, e] ++ (a :: b :: c :: f :: r) := fun q hq => by
  simp only [List.mem_cons, List.mem_append, List.cons_append, List.nil_append] at hq ⊢
  rcases hq with h | h | h | h | h | h | h <;> simp [h]
theorem reach_len {p : Int} {R : List (List Int)} : ∀ n rem st, Reach p R n rem st → rem.length + n = R.length
  | 0, rem, st, ⟨e1, e2⟩ => by rw [e1]; rfl
  | n + 1, rem, st, ⟨rem₀, st₀, k, one, hr, hk, e1, e2⟩ => by
    have := reach_len n rem₀ st₀ hr
    have hlt := lt_of_some hk
    rw [e1, List.length_eraseIdx, if_pos hlt]; omega
theorem RowsIn.eraseIdx {led : List (Addr × Obj)} {vs : List Value} {r : List (List Int)} (x : RowsIn led vs r) : ∀ k, RowsIn led (vs.eraseIdx k) (r.eraseIdx k) := by
  induction x with
  | nil => intro k; exact .nil
  | cons g1 g2 x ih =>
    intro k
    cases k with
    | zero => exact x
    | succ k => exact .cons g1 g2 (ih k)
theorem len_here {prog : Program} {w : World} {A : Around} {E : Value → Shared → Prop} {s : Shared} {l : Addr} {vs : List Value} {Q : Value → Shared → Prop} (hl : s.heap.IsList l vs.toArray) (hz : vs.length < 1000) (h : Q (.int (vs.length : Int) (s.toks + 1)) { s with toks := s.toks + 1 + 1 }) :
    wpAny (model prog w) A (call (.builtin "len") [.ref l]) Q E s := by
  refine len_list hl (by rw [List.size_toArray]; omega) ?_
  rw [List.size_toArray]; exact h
theorem tail_ne {led ext own oin : List (Addr × Obj)} {a : Addr} (h1 : ∀ q ∈ led, q.1 ≠ a) (h2 : ∀ q ∈ ext ++ own, q.1 ≠ a) (h3 : ∀ q ∈ oin, q.1 ≠ a) : ∀ q ∈ led ++ (ext ++ own) ++ oin, q.1 ≠ a := all_app (all_app h1 h2) h3
theorem loc_of {h₀ h : Heap} {L a : Addr} {vs : List Value} {n : Nat} {led Tl : List (Addr × Obj)} (N : News h₀ L h led) (m : (a, listOf vs.toArray n) ∈ Tl) : Loc h₀ Tl a vs := .inr ⟨n, m⟩
theorem lt_split {prog : Program} {w : World} {A : Around} {E : Value → Shared → Prop} {s : Shared} {a b : Int} {t u : Tok} {Q : Value → Shared → Prop} (h1 : a < b → Q (.bool true) s) (h2 : ¬ a < b → Q (.bool false) s) : wpAny (model prog w) A (compareOp .Lt (.int a t) (.int b u)) Q E s :=
  PyProof.Rows.lt_int (by
    by_cases h : a < b
    · rw [decide_eq_true h]; exact h1 h
    · rw [decide_eq_false h]; exact h2 h)
theorem get_here {prog : Program} {w : World} {A : Around} {E : Value → Shared → Prop} {s : Shared} {h₀ : Heap} {L d : Addr} {o : Obj} {news : List (Addr × Obj)} {kvs : List (Int × Value)} {k : Int} {t : Tok} {dflt v : Value} {Q : Value → Shared → Prop} (N : News h₀ L s.heap news) (hp : (d, o) ∈ news) (hd : o.IsDictOf (PySem.intKind prog w) kvs) (lo : (d == sysModules) = false) (e : (valueAt kvs k).getD dflt = v) (h : Q v { s with toks := s.toks + 1 }) :
    wpAny (model prog w) A (call (.builtin "dict.get") [.ref d, .int k t, dflt]) Q E s := kdg_get2 N hp hd lo (intKind_is _ _ _ _) _ rfl (by rw [e]; exact h)
theorem get_lot {h₀ h : Heap} {L W2 : Addr} {o : Obj} {news led : List (Addr × Obj)} {kvs : List (Int × Value)} {l : L3} {d : Int} {t : Tok} (N : News h₀ L h ((W2, o) :: news)) (ho : o = listOf (List.toArray [.int 1 t]) 0) (x : LotsIn led kvs l) (sub : ∀ q ∈ led, q ∈ news) :
    ∃ ga gv, (valueAt kvs d).getD (.ref W2) = .ref ga ∧ Loc h₀ ((W2, o) :: news) ga gv ∧ IntsAre gv ((l3get l d).getD [1]) := by
  cases e : l3get l d with
  | none => exact ⟨W2, [.int 1 t], by rw [x.absent d e]; rfl, .inr ⟨0, by rw [ho]; exact .head _⟩, .cons _ _ .nil⟩
  | some xs =>
    obtain ⟨a, us, n, ea, hm, hi⟩ := x.there d xs e
    exact ⟨a, us, by rw [ea]; rfl, .inr ⟨n, .tail _ (sub _ hm)⟩, hi⟩
theorem step_yes {p : Int} {st : St} {one : List Int} (h : st.1.length + one.length < 9) : stepS p st one = (timesI p st.1 one, l3set st.2 ((one.length : Int) - 1) (timesI p ((l3get st.2 ((one.length : Int) - 1)).getD [1]) one)) := by
  unfold stepS; rw [if_pos h, times_fast]
theorem step_no {p : Int} {st : St} {one : List Int} (h : ¬ st.1.length + one.length < 9) : stepS p st one = st := by
  unfold stepS; rw [if_neg h]
theorem lot_po {p : Int} {l : L3} {n : Nat} {d : Int} (hp : p = 2 ∨ p = 3 ∨ p = 5) (h : L3ok n p l) (hn : n ≤ 20) : Po p ((l3get l d).getD [1]) := by
  cases e : l3get l d with
  | none => exact Po.lit1 hp
  | some xs => exact ⟨(h d xs e).rg, (h d xs e).trm, Nat.le_trans (h d xs e).len hn⟩
theorem mem_five {a b c d e : Addr × Obj} {led B Tl : List (Addr × Obj)} (h1 : ∀ q ∈ led, q ∈ Tl) (h2 : ∀ q ∈ B, q ∈ Tl) : ∀ q ∈ a :: b :: c :: d :: e :: (led ++ B), q ∈ a :: b :: c :: d :: e :: Tl := List.forall_mem_cons.mpr ⟨.head _, List.forall_mem_cons.mpr ⟨.tail _ (.head _), List.forall_mem_cons.mpr ⟨.tail _ (.tail _ (.head _)), List.forall_mem_cons.mpr ⟨.tail _ (.tail _ (.tail _ (.head _))), List.forall_mem_cons.mpr ⟨.tail _ (.tail _ (.tail _ (.tail _ (.head _)))), fun q hq => (List.mem_append.mp hq).elim (fun h => .tail _ (.tail _ (.tail _ (.tail _ (.tail _ (h1 q h)))))) (fun h => .tail _ (.tail _ (.tail _ (.tail _ (.tail _ (h2 q h))))))⟩⟩⟩⟩⟩
theorem mem_eight {x y z a b c d e : Addr × Obj} {led B Tl : List (Addr × Obj)} (h1 : ∀ q ∈ led, q ∈ Tl) (h2 : ∀ q ∈ B, q ∈ Tl) : ∀ q ∈ a :: b :: c :: d :: e :: (x :: z :: led ++ B), q ∈ x :: y :: z :: a :: b :: c :: d :: e :: Tl := List.forall_mem_cons.mpr ⟨.tail _ (.tail _ (.tail _ (.head _))), List.forall_mem_cons.mpr ⟨.tail _ (.tail _ (.tail _ (.tail _ (.head _)))), List.forall_mem_cons.mpr ⟨.tail _ (.tail _ (.tail _ (.tail _ (.tail _ (.head _))))), List.forall_mem_cons.mpr ⟨.tail _ (.tail _ (.tail _ (.tail _ (.tail _ (.tail _ (.head _)))))), List.forall_mem_cons.mpr ⟨.tail _ (.tail _ (.tail _ (.tail _ (.tail _ (.tail _ (.tail _ (.head _))))))), List.forall_mem_cons.mpr ⟨.head _, List.forall_mem_cons.mpr ⟨.tail _ (.tail _ (.head _)), fun q hq => (List.mem_append.mp hq).elim (fun h => .tail _ (.tail _ (.tail _ (.tail _ (.tail _ (.tail _ (.tail _ (.tail _ (h1 q h))))))))) (fun h => .tail _ (.tail _ (.tail _ (.tail _ (.tail _ (.tail _ (.tail _ (.tail _ (h2 q h)))))))))⟩⟩⟩⟩⟩⟩⟩
theorem mem_up6 {z a b c d e : Addr × Obj} {Tl : List (Addr × Obj)} {q : Addr × Obj} (h : q ∈ Tl) : q ∈ z :: a :: b :: c :: d :: e :: Tl := .tail _ (.tail _ (.tail _ (.tail _ (.tail _ (.tail _ h)))))
theorem mem_up5 {a b c d e : Addr × Obj} {Tl : List (Addr × Obj)} {q : Addr × Obj} (h : q ∈ Tl) : q ∈ a :: b :: c :: d :: e :: Tl := .tail _ (.tail _ (.tail _ (.tail _ (.tail _ h))))
theorem off_grow {own : List (Addr × Obj)} {A B C D E x y : Addr} {l : List Addr} (h : OwnOff own (A :: B :: C :: D :: E :: l)) (h1 : ∀ q ∈ own, q.1 ≠ x) (h2 : ∀ q ∈ own, q.1 ≠ y) : OwnOff own (A :: B :: C :: D :: E :: x :: y :: l) := fun q hq b hb => by
  have h0 := h q hq
  simp only [List.mem_cons] at hb
  rcases hb with rfl | rfl | rfl | rfl | rfl | rfl | rfl | hb
  · exact h0 _ (.head _)
  · exact h0 _ (.tail _ (.head _))
  · exact h0 _ (.tail _ (.tail _ (.head _)))
  · exact h0 _ (.tail _ (.tail _ (.tail _ (.head _))))
  · exact h0 _ (.tail _ (.tail _ (.tail _ (.tail _ (.head _)))))
  · exact h1 q hq
  · exact h2 q hq
  · exact h0 _ (.tail _ (.tail _ (.tail _ (.tail _ (.tail _ hb)))))
theorem expectS_eq (l : L3) : expectS l = ([1, 2, 3].filter fun d => (l3get l d).isSome).map fun d => ((l3get l d).getD [], d) := by
  obtain ⟨a, b, c⟩ := l
  cases a <;> cases b <;> cases c <;> rfl
theorem expectS_nil {l : L3} (h : expectS l = []) : ∀ d, l3get l d = none := fun d => by
  have g : ∀ d, d ∈ [(1 : Int), 2, 3] → l3get l d = none := fun d hd => Option.map_eq_none_iff.mp (List.filterMap_eq_nil_iff.mp h d hd)
  by_cases h1 : d = 1
  · exact g d (h1 ▸ .head _)
  by_cases h2 : d = 2
  · exact g d (h2 ▸ .tail _ (.head _))
  by_cases h3 : d = 3
  · exact g d (h3 ▸ .tail _ (.tail _ (.head _)))
  rw [l3get, if_neg h1, if_neg h2, if_neg h3]
theorem reach_start {p : Int} {R : List (List Int)} (hp : p = 2 ∨ p = 3 ∨ p = 5) (hR : ∀ r ∈ R, RowOk p r) : ∀ n rem st, Reach p R n rem st → (∀ d, l3get st.2 d = none) → st.1 = [1]
  | 0, rem, st, ⟨e1, e2⟩, _ => by rw [e2]; rfl
  | n + 1, rem, st, ⟨rem₀, st₀, k, one, hr, hk, e1, e2⟩, hn => by
    by_cases h : st₀.1.length + one.length < 9
    · rw [e2, step_yes h] at hn
      have := hn ((one.length : Int) - 1)
      rw [l3get_set (row_deg ((reach_ok hp hR n rem₀ st₀ hr).1 one (List.mem_of_getElem? hk))), if_pos rfl] at this
      cases this
    · rw [e2, step_no h] at hn ⊢
      exact reach_start hp hR n rem₀ st₀ hr hn
theorem dd_nil {p : Int} : ddI p [] = some [] := rfl
theorem reach_pos {p : Int} {R : List (List Int)} (hp : p = 2 ∨ p = 3 ∨ p = 5) (hR : ∀ r ∈ R, RowOk p r) {n : Nat} {rem : List (List Int)} {st : St} (h : Reach p R n rem st) (hg : ddI p st.1 = some (expectS st.2)) : 0 < st.1.length := by
  cases e : st.1 with
  | cons x r => exact Nat.succ_pos _
  | nil =>
    exfalso
    rw [e, dd_nil] at hg
    have h1 := reach_start hp hR n rem st h (expectS_nil (Option.some.inj hg).symm)
    rw [e] at h1; cases h1
theorem onlyAt_list {h : Heap} {a : Addr} {vs : List Value} {n : Nat} (e : h.get? a = some (listOf vs.toArray n)) : (onlyAt h a).IsList a vs.toArray := ⟨_, onlyAt_at e, rfl, n, rfl⟩
theorem onlyAt_keeps {h h' : Heap} {a : Addr} {o : Obj} (e : h.get? a = some o) (e' : h'.get? a = some o) : (onlyAt h a).StaysIn h' := fun b o' hb => by
  obtain ⟨rfl, e2⟩ := onlyAt_get hb
  rw [e] at e2; rw [e', e2]
theorem mem_M {a b c d e : Addr × Obj} {X T : List (Addr × Obj)} : ∀ q ∈ a :: b :: c :: d :: e :: (X ++ T), q ∈ X ++ (a :: b :: c :: d :: e :: T) := fun q hq => by
  simp only [List.mem_cons, List.mem_append] at hq ⊢
  rcases hq with h | h | h | h | h | h | h <;> simp [h]
theorem expect_step {l : L3} {i : Nat} {d : Int} {xs : List Int} (h : ([1, 2, 3].filter fun d => (l3get l d).isSome)[i]? = some d) (e : l3get l d = some xs) : (expectS l).take (i + 1) = (expectS l).take i ++ [(xs, d)] := by
  rw [List.take_add_one, expectS_eq, List.getElem?_map, h]
  simp [e]
theorem ints_nth {vs : List Value} {ns : List Int} (h : IntsAre vs ns) : ∀ {i : Nat} {v : Value}, vs[i]? = some v → ∃ z t, ns[i]? = some z ∧ v = .int z t := by
  induction h with
  | nil => intro i v h; simp at h
  | cons k t r ih =>
    intro i v hv
    cases i with
    | zero => exact ⟨k, t, rfl, by simpa using hv.symm⟩
    | succ i => exact ih (by simpa using hv)
theorem ne_pairs {prog : Program} {w : World} {A : Around} {E : Value → Shared → Prop} {s : Shared} {a b : Addr} {r : List (List Int × Int)} {as bs : List Addr} {Q : Value → Shared → Prop} (ra : Reads s.heap (.ref a) (pairsD r) as) (rb : Reads s.heap (.ref b) (pairsD r) bs) (hu : A.units + 64 < cLine) (h : Q (.bool false) s) :
    wpAny (model prog w) A (compareOp .NotEq (.ref a) (.ref b)) Q E s := ne_dataH ra rb (pairs_shaped _) (pairs_shaped _) hu (by rw [pairs_eqv, decide_eq_true rfl]; exact h)
theorem mem_two {a b c x y : Addr × Obj} {ex N : List (Addr × Obj)} (hx : x ∈ N) (hy : y ∈ N) : ∀ q ∈ a :: b :: c :: x :: y :: (ex ++ N), q ∈ a :: b :: c :: (ex ++ N) := List.forall_mem_cons.mpr ⟨.head _, List.forall_mem_cons.mpr ⟨.tail _ (.head _), List.forall_mem_cons.mpr ⟨.tail _ (.tail _ (.head _)), List.forall_mem_cons.mpr ⟨.tail _ (.tail _ (.tail _ (List.mem_append_right _ hx))), List.forall_mem_cons.mpr ⟨.tail _ (.tail _ (.tail _ (List.mem_append_right _ hy))), fun q hq => .tail _ (.tail _ (.tail _ (hq)))⟩⟩⟩⟩⟩
theorem mem_back {t a b c x y : Addr × Obj} {ex N : List (Addr × Obj)} : ∀ q ∈ a :: b :: c :: (t :: ex ++ N), q ∈ t :: a :: b :: c :: x :: y :: (ex ++ N) := List.forall_mem_cons.mpr ⟨.tail _ (.head _), List.forall_mem_cons.mpr ⟨.tail _ (.tail _ (.head _)), List.forall_mem_cons.mpr ⟨.tail _ (.tail _ (.tail _ (.head _))), List.forall_mem_cons.mpr ⟨.head _, fun q hq => .tail _ (.tail _ (.tail _ (.tail _ (.tail _ (.tail _ (hq))))))⟩⟩⟩⟩
theorem name_head {h₀ h : Heap} {L a : Addr} {o : Obj} {r : List (Addr × Obj)} (N : News h₀ L h ((a, o) :: r)) : ∃ f, f = a := ⟨a, rfl⟩
theorem Off3.cons' {I C D : Addr} {p : Addr × Obj} {l : List (Addr × Obj)} (h : p.1 ≠ I ∧ p.1 ≠ C ∧ p.1 ≠ D) (o : LCg.Off3 I C D l) : LCg.Off3 I C D (p :: l) := ⟨h, o⟩
theorem name_two {h₀ h : Heap} {L a b : Addr} {o : Obj} {v : List Value} {n : Nat} {r : List (Addr × Obj)} (N : News h₀ L h ((a, o) :: (b, listOf v.toArray n) :: r)) : (∃ f, f = b) ∧ (∃ f, f = v) ∧ ∃ f, f = n := ⟨⟨b, rfl⟩, ⟨v, rfl⟩, n, rfl⟩
theorem name_one {h₀ h : Heap} {L b : Addr} {v : List Value} {n : Nat} {r : List (Addr × Obj)} (N : News h₀ L h ((b, listOf v.toArray n) :: r)) : (∃ f, f = b) ∧ (∃ f, f = v) ∧ ∃ f, f = n := ⟨⟨b, rfl⟩, ⟨v, rfl⟩, n, rfl⟩
theorem pairs_step {hx : Heap} {ex Tm : List (Addr × Obj)} {ys us : List Value} {r r' : List (List Int × Int)} {T a : Addr} {xs : List Int} {d : Int} {t : Tok} {n : Nat} (x : PairsIn hx (ex ++ Tm) ys r) (e : r' = r ++ [(xs, d)]) (m : (a, listOf us.toArray n) ∈ Tm) (hi : IntsAre us xs) :
    PairsIn hx ((T, tupOf [.ref a, .int d t]) :: ex ++ Tm) (ys ++ [.ref T]) r' := by
  subst e
  refine (x.more (ext' := (T, tupOf [.ref a, .int d t]) :: (ex ++ Tm)) (fun q hq => List.mem_cons_of_mem _ hq)).snoc (List.mem_cons_self ..) (.inr ⟨n, List.mem_cons_of_mem _ (List.mem_append_right _ m)⟩) hi
theorem lot_addr {h₀ h : Heap} {L a b c : Addr} {o o' o'' : Obj} {r : List (Addr × Obj)} (N : News h₀ L h ((a, o) :: (b, o') :: (c, o'') :: r)) : (∃ f, f = b) ∧ ∃ f, f = c := ⟨⟨b, rfl⟩, c, rfl⟩
noncomputable abbrev wled (D R C : Addr) (c : WS) : List (Addr × Obj) := (D, listOf (List.toArray [.ref R, .int c.sd c.ts]) c.n) :: (R, listOf c.rs.toArray c.j) :: [(C, c.o)]
noncomputable def WP (c : WS) : Prop := IntsAre c.rs c.xs ∧ c.xs.length ≤ 40 ∧ (0 ≤ c.sd ∧ c.sd < 2147483647) ∧ ∃ v, c.o.data = .cell v
section
local macro_rules | `(tactic| walk_at "call builtin:len") => `(tactic| ((with_reducible show wpAny _ _ (call (Value.builtin "len") [Value.ref _]) _ _ _); first | refine len_here (by is_list) (by assumption) ?_ | refine halt ?_))
local macro_rules | `(tactic| walk_at "isTrue Compare") => `(tactic| refine wpAny_isTrue_Compare1 ?_)
local macro_rules | `(tactic| walk_at "compareOp Lt int int") => `(tactic| refine halt ?_)
local macro_rules | `(tactic| walk_at "call builtin:dict.get") => `(tactic| refine halt ?_)
local macro_rules | `(tactic| walk_at "setItem ref int") => `(tactic| refine halt ?_)
local macro_rules | `(tactic| walk_at "call builtin:sorted") => `(tactic| refine halt ?_)
local macro_rules | `(tactic| walk_at "compareOp NotEq ref ref") => `(tactic| refine halt ?_)
local macro_rules | `(tactic| walk_at "subscriptTail Name Name ref int") => `(tactic| refine halt ?_)
local macro_rules | `(tactic| walk_at "newTuple") => `(tactic| ((rename LCg.NsObj _ _ => hns0); refine halt ?_))
local macro_rules | `(tactic| walk_at "call builtin:list.pop") => `(tactic| refine halt ?_)
local macro_rules | `(tactic| k_ne) => `(tactic| first | assumption | (refine Ne.symm ?_; assumption))

set_option maxHeartbeats 8000000 in
theorem law_holds : PySem.Challenge.rw_nn0250_01.Holds := hd (by
  k_go0
  (all_goals try k_fold)
  (repeat' (first | ((with_reducible show wpAny _ _ (call (Value.ref 165) _) _ _ _); refine halt ?_) | ((with_reducible show wpAny _ _ (call (Value.ref 122) _) _ _ _); refine halt ?_) | ((with_reducible show wpAny _ _ (call (Value.ref 134) _) _ _ _); refine halt ?_) | (k_here; (with_reducible show wpAny _ _ (call (Value.ref 148) [Value.ref _, Value.ref _, Value.int _ _]) _ _ _); k_dflt (refine' use_L (lawtimes_ok ?x1 ?x2 ?x3 ?x4 ?x5 ?x6 ?x7 ?x8 ?x9) ?k1 ?k2 ?_ rfl ?d1 ?d2; (case k1 => k_asm); (case k2 => k_asm); (case x1 => k_in); (case x2 => exact Top.keeps (by assumption) (Fr.keep (by k_asm))); (case x3 => is_list); (case x4 => l_ints); (case x5 => is_list); (case x6 => l_ints); (case x7 => (first | assumption | omega)); (case x8 => (first | assumption | omega)); (case x9 => (first | assumption | omega)); (case d1 => exact Nat.le_of_ble_eq_true rfl); (case d2 => exact Nat.le_of_ble_eq_true rfl)); (intro l' vs' n' h' tk' F' N' ne' i'); (try k_sweep)) | (k_here; (with_reducible show wpAny _ _ (call (Value.ref 127) [Value.ref _]) _ _ _); k_dflt (refine' use_draws (draws_ok ?x1 ?x2 ?x3 ?x4 ?x5) ?k1 ?k2 ?_ rfl ?d1 ?d2; (case k1 => k_asm); (case k2 => k_asm); (case x1 => k_in); (case x2 => exact Top.keeps (by assumption) (Fr.keep (by k_asm))); (case x3 => is_list); (case x4 => l_ints); (case x5 => (first | assumption | omega)); (case d1 => exact Nat.le_of_ble_eq_true rfl); (case d2 => exact Nat.le_of_ble_eq_true rfl)); (intro D R sd' ts' n' rs' j' xs' h' tk' F' N' dr' dD' dR' ih' hl' hs'); (try k_sweep)) | walk1 | (dsimp only; walk1)))
  unfold Halt
  refine For_turns (by assumption) ?_
  (repeat' (first | ((with_reducible show wpAny _ _ (call (Value.ref 165) _) _ _ _); refine halt ?_) | ((with_reducible show wpAny _ _ (call (Value.ref 122) _) _ _ _); refine halt ?_) | ((with_reducible show wpAny _ _ (call (Value.ref 134) _) _ _ _); refine halt ?_) | (k_here; (with_reducible show wpAny _ _ (call (Value.ref 148) [Value.ref _, Value.ref _, Value.int _ _]) _ _ _); k_dflt (refine' use_L (lawtimes_ok ?x1 ?x2 ?x3 ?x4 ?x5 ?x6 ?x7 ?x8 ?x9) ?k1 ?k2 ?_ rfl ?d1 ?d2; (case k1 => k_asm); (case k2 => k_asm); (case x1 => k_in); (case x2 => exact Top.keeps (by assumption) (Fr.keep (by k_asm))); (case x3 => is_list); (case x4 => l_ints); (case x5 => is_list); (case x6 => l_ints); (case x7 => (first | assumption | omega)); (case x8 => (first | assumption | omega)); (case x9 => (first | assumption | omega)); (case d1 => exact Nat.le_of_ble_eq_true rfl); (case d2 => exact Nat.le_of_ble_eq_true rfl)); (intro l' vs' n' h' tk' F' N' ne' i'); (try k_sweep)) | (k_here; (with_reducible show wpAny _ _ (call (Value.ref 127) [Value.ref _]) _ _ _); k_dflt (refine' use_draws (draws_ok ?x1 ?x2 ?x3 ?x4 ?x5) ?k1 ?k2 ?_ rfl ?d1 ?d2; (case k1 => k_asm); (case k2 => k_asm); (case x1 => k_in); (case x2 => exact Top.keeps (by assumption) (Fr.keep (by k_asm))); (case x3 => is_list); (case x4 => l_ints); (case x5 => (first | assumption | omega)); (case d1 => exact Nat.le_of_ble_eq_true rfl); (case d2 => exact Nat.le_of_ble_eq_true rfl)); (intro D R sd' ts' n' rs' j' xs' h' tk' F' N' dr' dD' dR' ih' hl' hs'); (try k_sweep)) | walk1 | (dsimp only; walk1)))
  unfold Halt
  rename News _ _ _ _ => N0
  rename Fr _ _ _ _ => F0
  obtain ⟨C, hC⟩ := cell_addr N0
  rename D ≠ R => dDR
  rename ∀ p ∈ [(_, _)], p.1 ≠ D => dD
  rename ∀ p ∈ [(_, _)], p.1 ≠ R => dR
  have cD : C ≠ D := by rw [hC]; exact dD _ (.head _)
  have cR : C ≠ R := by rw [hC]; exact dR _ (.head _)
  obtain ⟨M, F0⟩ : ∃ M : Str → Option Value, Fr _ _ _ (fun y => if y = Str.ofString "draws" then some (.ref D) else M y) := ⟨_, F0⟩
  rename IntsAre _ _ => ih0
  refine for_range (wled D R _) (fun _ => []) [Str.ofString "turn", Str.ofString "p", Str.ofString "pool", Str.ofString "whole", Str.ofString "at", Str.ofString "one"] (fun _ c => WP c) ⟨_, _, _, _, _, _, _⟩ rfl (by assumption) (small_one (by omega) (by omega) (by omega) (by omega)) (rangeSize_nat _ _) rfl rfl F0 N0 (by kst_all) ⟨ih0, by assumption, by assumption, _, by assumption⟩ ?_ ?_
  · rw [← hC]
    rintro c0 i t u h tk own hi hoff hP0 F' N' Rq hRq
    obtain ⟨sd, ts, n, rs, j, xs, o⟩ := c0
    try dsimp only at hP0
    obtain ⟨ih, hl, hs, v, ho⟩ := hP0
    try dsimp only at ih hl hs ho
    change OwnOff own [D, R, C] at hoff
    replace N' : News _ _ h (drawL D R sd ts n rs j ++ ((C, o) :: own)) := N'
    change Fr _ _ h _ at F'
    have oD := off_one hoff (.head _)
    have oR := off_one hoff (.tail _ (.head _))
    have oC := off_one hoff (.tail _ (.tail _ (.head _)))
    (repeat' (first | ((with_reducible show wpAny _ _ (call (Value.ref 165) _) _ _ _); refine halt ?_) | ((with_reducible show wpAny _ _ (call (Value.ref 122) _) _ _ _); refine halt ?_) | ((with_reducible show wpAny _ _ (call (Value.ref 134) _) _ _ _); refine halt ?_) | (k_here; (with_reducible show wpAny _ _ (call (Value.ref 148) [Value.ref _, Value.ref _, Value.int _ _]) _ _ _); k_dflt (refine' use_L (lawtimes_ok ?x1 ?x2 ?x3 ?x4 ?x5 ?x6 ?x7 ?x8 ?x9) ?k1 ?k2 ?_ rfl ?d1 ?d2; (case k1 => k_asm); (case k2 => k_asm); (case x1 => k_in); (case x2 => exact Top.keeps (by assumption) (Fr.keep (by k_asm))); (case x3 => is_list); (case x4 => l_ints); (case x5 => is_list); (case x6 => l_ints); (case x7 => (first | assumption | omega)); (case x8 => (first | assumption | omega)); (case x9 => (first | assumption | omega)); (case d1 => exact Nat.le_of_ble_eq_true rfl); (case d2 => exact Nat.le_of_ble_eq_true rfl)); (intro l' vs' n' h' tk' F' N' ne' i'); (try k_sweep)) | (k_here; (with_reducible show wpAny _ _ (call (Value.ref 127) [Value.ref _]) _ _ _); k_dflt (refine' use_draws (draws_ok ?x1 ?x2 ?x3 ?x4 ?x5) ?k1 ?k2 ?_ rfl ?d1 ?d2; (case k1 => k_asm); (case k2 => k_asm); (case x1 => k_in); (case x2 => exact Top.keeps (by assumption) (Fr.keep (by k_asm))); (case x3 => is_list); (case x4 => l_ints); (case x5 => (first | assumption | omega)); (case d1 => exact Nat.le_of_ble_eq_true rfl); (case d2 => exact Nat.le_of_ble_eq_true rfl)); (intro D R sd' ts' n' rs' j' xs' h' tk' F' N' dr' dD' dR' ih' hl' hs'); (try k_sweep)) | walk1 | (dsimp only; walk1)))
    unfold Halt
    rename News _ _ _ _ => N1
    rename Fr _ _ _ _ => F1
    rename ∀ p ∈ drawL D R sd ts n rs j ++ (C, o) :: own, p.1 < _ => l1
    have aD := l1 (D, _) (.head _)
    have aR := l1 (R, _) (.tail _ (.head _))
    refine use_take (rest := _ :: (C, o) :: own) (by assumption) (by assumption) F1 (News.sub N1 mem_up1) dDR (ne_both (List.forall_mem_cons.mpr ⟨Nat.ne_of_gt aD, List.forall_mem_cons.mpr ⟨cD, oD⟩⟩) (List.forall_mem_cons.mpr ⟨Nat.ne_of_gt aR, List.forall_mem_cons.mpr ⟨cR, oR⟩⟩)) ih hl hs (by decide) ?_ rfl (Nat.le_of_ble_eq_true rfl) (Nat.le_of_ble_eq_true rfl)
    clear l1 aD aR ih hl hs
    intro r tr h tk rs xs j sd ts n hr F' N' ih hl hs
    (repeat' (first | ((with_reducible show wpAny _ _ (call (Value.ref 165) _) _ _ _); refine halt ?_) | ((with_reducible show wpAny _ _ (call (Value.ref 122) _) _ _ _); refine halt ?_) | ((with_reducible show wpAny _ _ (call (Value.ref 134) _) _ _ _); refine halt ?_) | (k_here; (with_reducible show wpAny _ _ (call (Value.ref 148) [Value.ref _, Value.ref _, Value.int _ _]) _ _ _); k_dflt (refine' use_L (lawtimes_ok ?x1 ?x2 ?x3 ?x4 ?x5 ?x6 ?x7 ?x8 ?x9) ?k1 ?k2 ?_ rfl ?d1 ?d2; (case k1 => k_asm); (case k2 => k_asm); (case x1 => k_in); (case x2 => exact Top.keeps (by assumption) (Fr.keep (by k_asm))); (case x3 => is_list); (case x4 => l_ints); (case x5 => is_list); (case x6 => l_ints); (case x7 => (first | assumption | omega)); (case x8 => (first | assumption | omega)); (case x9 => (first | assumption | omega)); (case d1 => exact Nat.le_of_ble_eq_true rfl); (case d2 => exact Nat.le_of_ble_eq_true rfl)); (intro l' vs' n' h' tk' F' N' ne' i'); (try k_sweep)) | (k_here; (with_reducible show wpAny _ _ (call (Value.ref 127) [Value.ref _]) _ _ _); k_dflt (refine' use_draws (draws_ok ?x1 ?x2 ?x3 ?x4 ?x5) ?k1 ?k2 ?_ rfl ?d1 ?d2; (case k1 => k_asm); (case k2 => k_asm); (case x1 => k_in); (case x2 => exact Top.keeps (by assumption) (Fr.keep (by k_asm))); (case x3 => is_list); (case x4 => l_ints); (case x5 => (first | assumption | omega)); (case d1 => exact Nat.le_of_ble_eq_true rfl); (case d2 => exact Nat.le_of_ble_eq_true rfl)); (intro D R sd' ts' n' rs' j' xs' h' tk' F' N' dr' dD' dR' ih' hl' hs'); (try k_sweep)) | walk1 | (dsimp only; walk1)))
    rename News _ _ _ _ => N2
    rename Fr _ _ _ _ => F2
    have hp0 : ([2, 3, 5] : List Int).getD r.toNat 0 = 2 ∨ ([2, 3, 5] : List Int).getD r.toNat 0 = 3 ∨ ([2, 3, 5] : List Int).getD r.toNat 0 = 5 := by
      have : r = 0 ∨ r = 1 ∨ r = 2 := by omega
      rcases this with rfl | rfl | rfl <;> decide
    generalize ([2, 3, 5] : List Int).getD r.toNat 0 = p at F2 hp0 ⊢
    refine index_list_ints (vs := [_, _, _]) (ns := [2, 3, 5]) (News.isList N2 (.head _)) (.cons _ _ (.cons _ _ (.cons _ _ .nil))) (by decide) (by rcases hp0 with rfl | rfl | rfl <;> decide) ?_
    obtain ⟨ix, eix, hix⟩ : ∃ ix : Nat, List.idxOf p [2, 3, 5] = ix ∧ (p = 2 ∧ ix = 0 ∨ p = 3 ∧ ix = 1 ∨ p = 5 ∧ ix = 2) := by
      rcases hp0 with rfl | rfl | rfl <;> exact ⟨_, rfl, by decide⟩
    rw [eix]
    have hix3 : (0 : Int) ≤ (ix : Int) ∧ (ix : Int) < 3 := by omega
    have hmost : p = 2 ∧ ([3, 2, 2] : List Int).getD ((ix : Nat) : Int).toNat 0 = 3 ∨ p = 3 ∧ ([3, 2, 2] : List Int).getD ((ix : Nat) : Int).toNat 0 = 2 ∨ p = 5 ∧ ([3, 2, 2] : List Int).getD ((ix : Nat) : Int).toNat 0 = 2 := by
      rcases hix with ⟨rfl, rfl⟩ | ⟨rfl, rfl⟩ | ⟨rfl, rfl⟩ <;> decide
    have hk3 : 0 ≤ ([3, 2, 2] : List Int).getD ((ix : Nat) : Int).toNat 0 ∧ ([3, 2, 2] : List Int).getD ((ix : Nat) : Int).toNat 0 ≤ 3 := by omega
    (repeat' (first | ((with_reducible show wpAny _ _ (call (Value.ref 165) _) _ _ _); refine halt ?_) | ((with_reducible show wpAny _ _ (call (Value.ref 122) _) _ _ _); refine halt ?_) | ((with_reducible show wpAny _ _ (call (Value.ref 134) _) _ _ _); refine halt ?_) | (k_here; (with_reducible show wpAny _ _ (call (Value.ref 148) [Value.ref _, Value.ref _, Value.int _ _]) _ _ _); k_dflt (refine' use_L (lawtimes_ok ?x1 ?x2 ?x3 ?x4 ?x5 ?x6 ?x7 ?x8 ?x9) ?k1 ?k2 ?_ rfl ?d1 ?d2; (case k1 => k_asm); (case k2 => k_asm); (case x1 => k_in); (case x2 => exact Top.keeps (by assumption) (Fr.keep (by k_asm))); (case x3 => is_list); (case x4 => l_ints); (case x5 => is_list); (case x6 => l_ints); (case x7 => (first | assumption | omega)); (case x8 => (first | assumption | omega)); (case x9 => (first | assumption | omega)); (case d1 => exact Nat.le_of_ble_eq_true rfl); (case d2 => exact Nat.le_of_ble_eq_true rfl)); (intro l' vs' n' h' tk' F' N' ne' i'); (try k_sweep)) | (k_here; (with_reducible show wpAny _ _ (call (Value.ref 127) [Value.ref _]) _ _ _); k_dflt (refine' use_draws (draws_ok ?x1 ?x2 ?x3 ?x4 ?x5) ?k1 ?k2 ?_ rfl ?d1 ?d2; (case k1 => k_asm); (case k2 => k_asm); (case x1 => k_in); (case x2 => exact Top.keeps (by assumption) (Fr.keep (by k_asm))); (case x3 => is_list); (case x4 => l_ints); (case x5 => (first | assumption | omega)); (case d1 => exact Nat.le_of_ble_eq_true rfl); (case d2 => exact Nat.le_of_ble_eq_true rfl)); (intro D R sd' ts' n' rs' j' xs' h' tk' F' N' dr' dD' dR' ih' hl' hs'); (try k_sweep)) | walk1 | (dsimp only; walk1)))
    unfold Halt
    rename News _ _ _ _ => N3
    rename Fr _ _ _ _ => F3
    refine use_primes (primes_ok (by k_in) (by exact Top.keeps (by assumption) (Fr.keep (by k_asm))) hp0 hk3) F3 N3 ?_ rfl (Nat.le_of_ble_eq_true rfl) (Nat.le_of_ble_eq_true rfl)
    intro PL pv pn ext h tk F' N' ne' off' rows'
    replace N' := News.sub N' mem_P
    have pD : D ≠ PL := ne' (D, _) (List.mem_append_right _ (.tail _ (.tail _ (.head _))))
    have pR : R ≠ PL := ne' (R, _) (List.mem_append_right _ (.tail _ (.tail _ (.tail _ (.head _)))))
    have pC : C ≠ PL := ne' (C, _) (List.mem_append_right _ (.tail _ (.tail _ (.tail _ (.tail _ (.tail _ (.head _)))))))
    have eP : ∀ q ∈ ext, q.1 ≠ PL := fun q hq => ne' q (List.mem_append_left _ hq)
    have oP : ∀ q ∈ own, q.1 ≠ PL := fun q hq => ne' q (List.mem_append_right _ (.tail _ (.tail _ (.tail _ (.tail _ (.tail _ (.tail _ hq)))))))
    have eD : ∀ q ∈ ext, q.1 ≠ D := list_ne (l := D) off' (.tail _ (.tail _ (.head _)))
    have eR : ∀ q ∈ ext, q.1 ≠ R := list_ne (l := D) off' (.tail _ (.tail _ (.tail _ (.head _))))
    have eC : ∀ q ∈ ext, q.1 ≠ C := list_ne (l := D) off' (.tail _ (.tail _ (.tail _ (.tail _ (.tail _ (.head _))))))
    have tC := all_app eC oC
    clear ne' off'
    generalize ([3, 2, 2] : List Int).getD ((ix : Nat) : Int).toNat 0 = kk at hmost hk3 rows'
    clear hix hix3 eix
    obtain ⟨hro, hlo3, hhi, hgood⟩ := pool_ok hmost
    generalize primesOut p.toNat kk.toNat = R0 at hro hlo3 hhi hgood rows'
    have hpl := rows'.length
    subst hC
    (repeat' (first | ((with_reducible show wpAny _ _ (call (Value.ref 165) _) _ _ _); refine halt ?_) | ((with_reducible show wpAny _ _ (call (Value.ref 122) _) _ _ _); refine halt ?_) | ((with_reducible show wpAny _ _ (call (Value.ref 134) _) _ _ _); refine halt ?_) | (k_here; (with_reducible show wpAny _ _ (call (Value.ref 148) [Value.ref _, Value.ref _, Value.int _ _]) _ _ _); k_dflt (refine' use_L (lawtimes_ok ?x1 ?x2 ?x3 ?x4 ?x5 ?x6 ?x7 ?x8 ?x9) ?k1 ?k2 ?_ rfl ?d1 ?d2; (case k1 => k_asm); (case k2 => k_asm); (case x1 => k_in); (case x2 => exact Top.keeps (by assumption) (Fr.keep (by k_asm))); (case x3 => is_list); (case x4 => l_ints); (case x5 => is_list); (case x6 => l_ints); (case x7 => (first | assumption | omega)); (case x8 => (first | assumption | omega)); (case x9 => (first | assumption | omega)); (case d1 => exact Nat.le_of_ble_eq_true rfl); (case d2 => exact Nat.le_of_ble_eq_true rfl)); (intro l' vs' n' h' tk' F' N' ne' i'); (try k_sweep)) | (k_here; (with_reducible show wpAny _ _ (call (Value.ref 127) [Value.ref _]) _ _ _); k_dflt (refine' use_draws (draws_ok ?x1 ?x2 ?x3 ?x4 ?x5) ?k1 ?k2 ?_ rfl ?d1 ?d2; (case k1 => k_asm); (case k2 => k_asm); (case x1 => k_in); (case x2 => exact Top.keeps (by assumption) (Fr.keep (by k_asm))); (case x3 => is_list); (case x4 => l_ints); (case x5 => (first | assumption | omega)); (case d1 => exact Nat.le_of_ble_eq_true rfl); (case d2 => exact Nat.le_of_ble_eq_true rfl)); (intro D R sd' ts' n' rs' j' xs' h' tk' F' N' dr' dD' dR' ih' hl' hs'); (try k_sweep)) | walk1 | (dsimp only; walk1)))
    unfold Halt
    refine For_turns (by assumption) ?_
    (repeat' (first | ((with_reducible show wpAny _ _ (call (Value.ref 165) _) _ _ _); refine halt ?_) | ((with_reducible show wpAny _ _ (call (Value.ref 122) _) _ _ _); refine halt ?_) | ((with_reducible show wpAny _ _ (call (Value.ref 134) _) _ _ _); refine halt ?_) | (k_here; (with_reducible show wpAny _ _ (call (Value.ref 148) [Value.ref _, Value.ref _, Value.int _ _]) _ _ _); k_dflt (refine' use_L (lawtimes_ok ?x1 ?x2 ?x3 ?x4 ?x5 ?x6 ?x7 ?x8 ?x9) ?k1 ?k2 ?_ rfl ?d1 ?d2; (case k1 => k_asm); (case k2 => k_asm); (case x1 => k_in); (case x2 => exact Top.keeps (by assumption) (Fr.keep (by k_asm))); (case x3 => is_list); (case x4 => l_ints); (case x5 => is_list); (case x6 => l_ints); (case x7 => (first | assumption | omega)); (case x8 => (first | assumption | omega)); (case x9 => (first | assumption | omega)); (case d1 => exact Nat.le_of_ble_eq_true rfl); (case d2 => exact Nat.le_of_ble_eq_true rfl)); (intro l' vs' n' h' tk' F' N' ne' i'); (try k_sweep)) | (k_here; (with_reducible show wpAny _ _ (call (Value.ref 127) [Value.ref _]) _ _ _); k_dflt (refine' use_draws (draws_ok ?x1 ?x2 ?x3 ?x4 ?x5) ?k1 ?k2 ?_ rfl ?d1 ?d2; (case k1 => k_asm); (case k2 => k_asm); (case x1 => k_in); (case x2 => exact Top.keeps (by assumption) (Fr.keep (by k_asm))); (case x3 => is_list); (case x4 => l_ints); (case x5 => (first | assumption | omega)); (case d1 => exact Nat.le_of_ble_eq_true rfl); (case d2 => exact Nat.le_of_ble_eq_true rfl)); (intro D R sd' ts' n' rs' j' xs' h' tk' F' N' dr' dD' dR' ih' hl' hs'); (try k_sweep)) | walk1 | (dsimp only; walk1)))
    unfold Halt
    rename News _ _ _ _ => N4
    rename Fr _ _ _ _ => F4
    rename Obj.IsDictOf (PySem.intKind _ _) _ [] => hd0
    rename_i DD _ _ _ _ _ _ _ W1 _ _ _ _ _ _ _ _ _ _ _
    rename (DD == sysModules) = false => loD
    rename _ < DD ∧ _ => lDD
    rename _ < W1 ∧ _ => lW1
    refine use_take (rest := _ :: _ :: _ :: _ :: (ext ++ own)) (by assumption) (by assumption) F4 (News.sub N4 mem_T) dDR (ne_both
      (List.forall_mem_cons.mpr ⟨Nat.ne_of_gt lW1.2.2.1, List.forall_mem_cons.mpr ⟨Nat.ne_of_gt lDD.2.1, List.forall_mem_cons.mpr ⟨Ne.symm pD, List.forall_mem_cons.mpr ⟨cD, all_app eD oD⟩⟩⟩⟩)
      (List.forall_mem_cons.mpr ⟨Nat.ne_of_gt lW1.2.2.2.1, List.forall_mem_cons.mpr ⟨Nat.ne_of_gt lDD.2.2.1, List.forall_mem_cons.mpr ⟨Ne.symm pR, List.forall_mem_cons.mpr ⟨cR, all_app eR oR⟩⟩⟩⟩)) ih hl hs (by decide) ?_ rfl (Nat.le_of_ble_eq_true rfl) (Nat.le_of_ble_eq_true rfl)
    clear ih hl hs
    intro r2 tr2 h2 tk2 rs xs j sd ts n hr2 F5 N5 ih hl hs
    obtain ⟨k2, rfl⟩ : ∃ k : Nat, r2 = (k : Int) := ⟨r2.toNat, by omega⟩
    (repeat' (first | ((with_reducible show wpAny _ _ (call (Value.ref 165) _) _ _ _); refine halt ?_) | ((with_reducible show wpAny _ _ (call (Value.ref 122) _) _ _ _); refine halt ?_) | ((with_reducible show wpAny _ _ (call (Value.ref 134) _) _ _ _); refine halt ?_) | (k_here; (with_reducible show wpAny _ _ (call (Value.ref 148) [Value.ref _, Value.ref _, Value.int _ _]) _ _ _); k_dflt (refine' use_L (lawtimes_ok ?x1 ?x2 ?x3 ?x4 ?x5 ?x6 ?x7 ?x8 ?x9) ?k1 ?k2 ?_ rfl ?d1 ?d2; (case k1 => k_asm); (case k2 => k_asm); (case x1 => k_in); (case x2 => exact Top.keeps (by assumption) (Fr.keep (by k_asm))); (case x3 => is_list); (case x4 => l_ints); (case x5 => is_list); (case x6 => l_ints); (case x7 => (first | assumption | omega)); (case x8 => (first | assumption | omega)); (case x9 => (first | assumption | omega)); (case d1 => exact Nat.le_of_ble_eq_true rfl); (case d2 => exact Nat.le_of_ble_eq_true rfl)); (intro l' vs' n' h' tk' F' N' ne' i'); (try k_sweep)) | (k_here; (with_reducible show wpAny _ _ (call (Value.ref 127) [Value.ref _]) _ _ _); k_dflt (refine' use_draws (draws_ok ?x1 ?x2 ?x3 ?x4 ?x5) ?k1 ?k2 ?_ rfl ?d1 ?d2; (case k1 => k_asm); (case k2 => k_asm); (case x1 => k_in); (case x2 => exact Top.keeps (by assumption) (Fr.keep (by k_asm))); (case x3 => is_list); (case x4 => l_ints); (case x5 => (first | assumption | omega)); (case d1 => exact Nat.le_of_ble_eq_true rfl); (case d2 => exact Nat.le_of_ble_eq_true rfl)); (intro D R sd' ts' n' rs' j' xs' h' tk' F' N' dr' dD' dR' ih' hl' hs'); (try k_sweep)) | walk1 | (dsimp only; walk1)))
    unfold Halt
    rename News _ _ _ _ => N6
    rename Fr _ _ _ _ => F6
    refine for_range (iled D R PL DD _ _ (ext ++ own)) (fun c => [(Str.ofString "whole", .ref c.wa)]) [Str.ofString "at", Str.ofString "one"] (IP _ p R0 ext D R PL DD _) ⟨_, _, _, _, _, _, _, _, W1, _, _, _, _, [(W1, _)], _, startS⟩ rfl (by assumption) (small_one (by omega) (by omega) (by omega) (by omega)) (rangeSize_nat _ _) rfl rfl F6 (News.sub N6 mem_I) (by kst_all) ⟨ih, hl, hs, rows', ⟨rfl, rfl⟩, .head _, .cons _ _ .nil, hd0, .nil, List.forall_mem_cons.mpr ⟨⟨Nat.ne_of_gt lW1.2.2.1, Nat.ne_of_gt lW1.2.2.2.1, Nat.ne_of_gt lW1.2.1, Nat.ne_of_gt lW1.1, Nat.ne_of_gt lW1.2.2.2.2.1⟩, fun _ h => nomatch h⟩⟩ ?_ ?_
    · rintro c0 i t u h tk oin hi hoi hP0 F' N' Rq2 hRq2
      obtain ⟨sd, ts, n, rs, j, xs, pv, pn, wa, wv, wn, ob, kvs, led, rem, st⟩ := c0
      try dsimp only at hP0
      obtain ⟨ih, hl, hs, rows', hre, hwm, hwi, hd0, hlo, hle⟩ := hP0
      try dsimp only at ih hl hs rows' hre hwm hwi hd0 hlo hle
      obtain ⟨hro', hst1, hst2⟩ := reach_ok hp0 hro _ _ _ hre
      have hrl := rows'.length
      have hrm := reach_len _ _ _ hre
      have hi3 : i < 3 := by omega
      have h1p : 0 < pv.length := by omega
      have h1q : pv.length ≤ 15 := by omega
      have qD := off_one hoi (.head _)
      have qR := off_one hoi (.tail _ (.head _))
      have qP := off_one hoi (.tail _ (.tail _ (.head _)))
      have qDD := off_one hoi (.tail _ (.tail _ (.tail _ (.head _))))
      have tD := tail_ne (fun q hq => (hle q hq).1) (all_app eD oD) qD
      have tR := tail_ne (fun q hq => (hle q hq).2.1) (all_app eR oR) qR
      have tP := tail_ne (fun q hq => (hle q hq).2.2.1) (all_app eP oP) qP
      have tDD := tail_ne (fun q hq => (hle q hq).2.2.2.1) (fun q hq => Nat.ne_of_lt (kst_ltOf lDD.2.2.2.2 q hq)) qDD
      have inL : ∀ q ∈ led, q ∈ led ++ (ext ++ own) ++ oin := fun q hq => List.mem_append_left _ (List.mem_append_left _ hq)
      have inE : ∀ q ∈ ext, q ∈ led ++ (ext ++ own) ++ oin := fun q hq => List.mem_append_left _ (List.mem_append_right _ (List.mem_append_left _ hq))
      have inO : ∀ q ∈ oin, q ∈ led ++ (ext ++ own) ++ oin := fun q hq => List.mem_append_right _ hq
      replace N' : News _ _ h ((D, listOf (List.toArray [.ref R, .int sd ts]) n) :: (R, listOf rs.toArray j) :: (PL, listOf pv.toArray pn) :: (DD, ob) :: (_, _) :: (led ++ (ext ++ own) ++ oin)) := N'
      change Fr _ _ h _ at F'
      have inB : ∀ q ∈ ext ++ own, q ∈ led ++ (ext ++ own) ++ oin := fun q hq => List.mem_append_left _ (List.mem_append_right _ hq)
      generalize led ++ (ext ++ own) ++ oin = Tl at N' tD tR tP tDD inL inE inO inB
      have lcw := loc_of N' (inL _ hwm)
      have zw : wv.length < 1000 := by rw [hwi.length]; exact Nat.lt_of_le_of_lt hst1.len (by omega)
      (repeat' (first | ((with_reducible show wpAny _ _ (call (Value.ref 165) _) _ _ _); refine halt ?_) | ((with_reducible show wpAny _ _ (call (Value.ref 122) _) _ _ _); refine halt ?_) | ((with_reducible show wpAny _ _ (call (Value.ref 134) _) _ _ _); refine halt ?_) | (k_here; (with_reducible show wpAny _ _ (call (Value.ref 148) [Value.ref _, Value.ref _, Value.int _ _]) _ _ _); k_dflt (refine' use_L (lawtimes_ok ?x1 ?x2 ?x3 ?x4 ?x5 ?x6 ?x7 ?x8 ?x9) ?k1 ?k2 ?_ rfl ?d1 ?d2; (case k1 => k_asm); (case k2 => k_asm); (case x1 => k_in); (case x2 => exact Top.keeps (by assumption) (Fr.keep (by k_asm))); (case x3 => is_list); (case x4 => l_ints); (case x5 => is_list); (case x6 => l_ints); (case x7 => (first | assumption | omega)); (case x8 => (first | assumption | omega)); (case x9 => (first | assumption | omega)); (case d1 => exact Nat.le_of_ble_eq_true rfl); (case d2 => exact Nat.le_of_ble_eq_true rfl)); (intro l' vs' n' h' tk' F' N' ne' i'); (try k_sweep)) | (k_here; (with_reducible show wpAny _ _ (call (Value.ref 127) [Value.ref _]) _ _ _); k_dflt (refine' use_draws (draws_ok ?x1 ?x2 ?x3 ?x4 ?x5) ?k1 ?k2 ?_ rfl ?d1 ?d2; (case k1 => k_asm); (case k2 => k_asm); (case x1 => k_in); (case x2 => exact Top.keeps (by assumption) (Fr.keep (by k_asm))); (case x3 => is_list); (case x4 => l_ints); (case x5 => (first | assumption | omega)); (case d1 => exact Nat.le_of_ble_eq_true rfl); (case d2 => exact Nat.le_of_ble_eq_true rfl)); (intro D R sd' ts' n' rs' j' xs' h' tk' F' N' dr' dD' dR' ih' hl' hs'); (try k_sweep)) | walk1 | (dsimp only; walk1)))
      unfold Halt
      refine len_here (News.isList (by assumption) (.tail _ (.tail _ (.head _)))) (by omega) ?_
      (repeat' (first | ((with_reducible show wpAny _ _ (call (Value.ref 165) _) _ _ _); refine halt ?_) | ((with_reducible show wpAny _ _ (call (Value.ref 122) _) _ _ _); refine halt ?_) | ((with_reducible show wpAny _ _ (call (Value.ref 134) _) _ _ _); refine halt ?_) | (k_here; (with_reducible show wpAny _ _ (call (Value.ref 148) [Value.ref _, Value.ref _, Value.int _ _]) _ _ _); k_dflt (refine' use_L (lawtimes_ok ?x1 ?x2 ?x3 ?x4 ?x5 ?x6 ?x7 ?x8 ?x9) ?k1 ?k2 ?_ rfl ?d1 ?d2; (case k1 => k_asm); (case k2 => k_asm); (case x1 => k_in); (case x2 => exact Top.keeps (by assumption) (Fr.keep (by k_asm))); (case x3 => is_list); (case x4 => l_ints); (case x5 => is_list); (case x6 => l_ints); (case x7 => (first | assumption | omega)); (case x8 => (first | assumption | omega)); (case x9 => (first | assumption | omega)); (case d1 => exact Nat.le_of_ble_eq_true rfl); (case d2 => exact Nat.le_of_ble_eq_true rfl)); (intro l' vs' n' h' tk' F' N' ne' i'); (try k_sweep)) | (k_here; (with_reducible show wpAny _ _ (call (Value.ref 127) [Value.ref _]) _ _ _); k_dflt (refine' use_draws (draws_ok ?x1 ?x2 ?x3 ?x4 ?x5) ?k1 ?k2 ?_ rfl ?d1 ?d2; (case k1 => k_asm); (case k2 => k_asm); (case x1 => k_in); (case x2 => exact Top.keeps (by assumption) (Fr.keep (by k_asm))); (case x3 => is_list); (case x4 => l_ints); (case x5 => (first | assumption | omega)); (case d1 => exact Nat.le_of_ble_eq_true rfl); (case d2 => exact Nat.le_of_ble_eq_true rfl)); (intro D R sd' ts' n' rs' j' xs' h' tk' F' N' dr' dD' dR' ih' hl' hs'); (try k_sweep)) | walk1 | (dsimp only; walk1)))
      unfold Halt
      rename News _ _ _ _ => N7
      rename Fr _ _ _ _ => F7
      refine use_take (rest := _ :: _ :: _ :: Tl) (by assumption) (by assumption) F7 N7 dDR (ne_both
        (List.forall_mem_cons.mpr ⟨Ne.symm pD, List.forall_mem_cons.mpr ⟨Nat.ne_of_gt lDD.2.1, List.forall_mem_cons.mpr ⟨cD, tD⟩⟩⟩)
        (List.forall_mem_cons.mpr ⟨Ne.symm pR, List.forall_mem_cons.mpr ⟨Nat.ne_of_gt lDD.2.2.1, List.forall_mem_cons.mpr ⟨cR, tR⟩⟩⟩)) ih hl hs (by omega) ?_ rfl (Nat.le_of_ble_eq_true rfl) (Nat.le_of_ble_eq_true rfl)
      clear ih hl hs
      intro r3 tr3 h3 tk3 rs xs j sd ts n hr3 F8 N8 ih hl hs
      obtain ⟨k, rfl⟩ : ∃ k : Nat, r3 = (k : Int) := ⟨r3.toNat, by omega⟩
      obtain ⟨y, hy⟩ : ∃ y, pv[k]? = some y := ⟨_, List.getElem?_eq_getElem (by omega)⟩
      obtain ⟨ya, ov, on, one, rfl, hym, hoi1, hky⟩ := rows'.get k y hy
      have hone := hro' one (List.mem_of_getElem? hky)
      have lco := loc_of N8 (inE _ hym)
      have zo : ov.length < 1000 := by rw [hoi1.length]; exact Nat.lt_of_le_of_lt hone.2.2 (by omega)
      replace N8 : News _ _ h3 ((D, listOf (List.toArray [.ref R, .int sd ts]) n) :: (R, listOf rs.toArray j) :: (PL, listOf pv.toArray pn) :: (DD, ob) :: (_, _) :: Tl) := N8
      (repeat' (first | ((with_reducible show wpAny _ _ (call (Value.ref 165) _) _ _ _); refine halt ?_) | ((with_reducible show wpAny _ _ (call (Value.ref 122) _) _ _ _); refine halt ?_) | ((with_reducible show wpAny _ _ (call (Value.ref 134) _) _ _ _); refine halt ?_) | (k_here; (with_reducible show wpAny _ _ (call (Value.ref 148) [Value.ref _, Value.ref _, Value.int _ _]) _ _ _); k_dflt (refine' use_L (lawtimes_ok ?x1 ?x2 ?x3 ?x4 ?x5 ?x6 ?x7 ?x8 ?x9) ?k1 ?k2 ?_ rfl ?d1 ?d2; (case k1 => k_asm); (case k2 => k_asm); (case x1 => k_in); (case x2 => exact Top.keeps (by assumption) (Fr.keep (by k_asm))); (case x3 => is_list); (case x4 => l_ints); (case x5 => is_list); (case x6 => l_ints); (case x7 => (first | assumption | omega)); (case x8 => (first | assumption | omega)); (case x9 => (first | assumption | omega)); (case d1 => exact Nat.le_of_ble_eq_true rfl); (case d2 => exact Nat.le_of_ble_eq_true rfl)); (intro l' vs' n' h' tk' F' N' ne' i'); (try k_sweep)) | (k_here; (with_reducible show wpAny _ _ (call (Value.ref 127) [Value.ref _]) _ _ _); k_dflt (refine' use_draws (draws_ok ?x1 ?x2 ?x3 ?x4 ?x5) ?k1 ?k2 ?_ rfl ?d1 ?d2; (case k1 => k_asm); (case k2 => k_asm); (case x1 => k_in); (case x2 => exact Top.keeps (by assumption) (Fr.keep (by k_asm))); (case x3 => is_list); (case x4 => l_ints); (case x5 => (first | assumption | omega)); (case d1 => exact Nat.le_of_ble_eq_true rfl); (case d2 => exact Nat.le_of_ble_eq_true rfl)); (intro D R sd' ts' n' rs' j' xs' h' tk' F' N' dr' dD' dR' ih' hl' hs'); (try k_sweep)) | walk1 | (dsimp only; walk1)))
      unfold Halt
      refine pop_at_K (by assumption) (by assumption) hy (by omega) (by k_upd) ?_
      intro h4 F9 N9
      (repeat' (first | ((with_reducible show wpAny _ _ (call (Value.ref 165) _) _ _ _); refine halt ?_) | ((with_reducible show wpAny _ _ (call (Value.ref 122) _) _ _ _); refine halt ?_) | ((with_reducible show wpAny _ _ (call (Value.ref 134) _) _ _ _); refine halt ?_) | (k_here; (with_reducible show wpAny _ _ (call (Value.ref 148) [Value.ref _, Value.ref _, Value.int _ _]) _ _ _); k_dflt (refine' use_L (lawtimes_ok ?x1 ?x2 ?x3 ?x4 ?x5 ?x6 ?x7 ?x8 ?x9) ?k1 ?k2 ?_ rfl ?d1 ?d2; (case k1 => k_asm); (case k2 => k_asm); (case x1 => k_in); (case x2 => exact Top.keeps (by assumption) (Fr.keep (by k_asm))); (case x3 => is_list); (case x4 => l_ints); (case x5 => is_list); (case x6 => l_ints); (case x7 => (first | assumption | omega)); (case x8 => (first | assumption | omega)); (case x9 => (first | assumption | omega)); (case d1 => exact Nat.le_of_ble_eq_true rfl); (case d2 => exact Nat.le_of_ble_eq_true rfl)); (intro l' vs' n' h' tk' F' N' ne' i'); (try k_sweep)) | (k_here; (with_reducible show wpAny _ _ (call (Value.ref 127) [Value.ref _]) _ _ _); k_dflt (refine' use_draws (draws_ok ?x1 ?x2 ?x3 ?x4 ?x5) ?k1 ?k2 ?_ rfl ?d1 ?d2; (case k1 => k_asm); (case k2 => k_asm); (case x1 => k_in); (case x2 => exact Top.keeps (by assumption) (Fr.keep (by k_asm))); (case x3 => is_list); (case x4 => l_ints); (case x5 => (first | assumption | omega)); (case d1 => exact Nat.le_of_ble_eq_true rfl); (case d2 => exact Nat.le_of_ble_eq_true rfl)); (intro D R sd' ts' n' rs' j' xs' h' tk' F' N' dr' dD' dR' ih' hl' hs'); (try k_sweep)) | walk1 | (dsimp only; walk1)))
      unfold Halt
      have hpw : Po p st.1 := ⟨hst1.rg, hst1.trm, Nat.le_trans hst1.len (by omega)⟩
      have hpo := hone.1
      have hpg : Po p ((l3get st.2 ((ov.length : Int) - 1)).getD [1]) := lot_po hp0 hst2 (by omega)
      refine lt_split (fun hlt => ?_) (fun hlt => ?_)
      · (repeat' (first | ((with_reducible show wpAny _ _ (call (Value.ref 165) _) _ _ _); refine halt ?_) | ((with_reducible show wpAny _ _ (call (Value.ref 122) _) _ _ _); refine halt ?_) | ((with_reducible show wpAny _ _ (call (Value.ref 134) _) _ _ _); refine halt ?_) | (k_here; (with_reducible show wpAny _ _ (call (Value.ref 148) [Value.ref _, Value.ref _, Value.int _ _]) _ _ _); k_dflt (refine' use_L (lawtimes_ok ?x1 ?x2 ?x3 ?x4 ?x5 ?x6 ?x7 ?x8 ?x9) ?k1 ?k2 ?_ rfl ?d1 ?d2; (case k1 => k_asm); (case k2 => k_asm); (case x1 => k_in); (case x2 => exact Top.keeps (by assumption) (Fr.keep (by k_asm))); (case x3 => is_list); (case x4 => l_ints); (case x5 => is_list); (case x6 => l_ints); (case x7 => (first | assumption | omega)); (case x8 => (first | assumption | omega)); (case x9 => (first | assumption | omega)); (case d1 => exact Nat.le_of_ble_eq_true rfl); (case d2 => exact Nat.le_of_ble_eq_true rfl)); (intro l' vs' n' h' tk' F' N' ne' i'); (try k_sweep)) | (k_here; (with_reducible show wpAny _ _ (call (Value.ref 127) [Value.ref _]) _ _ _); k_dflt (refine' use_draws (draws_ok ?x1 ?x2 ?x3 ?x4 ?x5) ?k1 ?k2 ?_ rfl ?d1 ?d2; (case k1 => k_asm); (case k2 => k_asm); (case x1 => k_in); (case x2 => exact Top.keeps (by assumption) (Fr.keep (by k_asm))); (case x3 => is_list); (case x4 => l_ints); (case x5 => (first | assumption | omega)); (case d1 => exact Nat.le_of_ble_eq_true rfl); (case d2 => exact Nat.le_of_ble_eq_true rfl)); (intro D R sd' ts' n' rs' j' xs' h' tk' F' N' dr' dD' dR' ih' hl' hs'); (try k_sweep)) | walk1 | (dsimp only; walk1)))
        unfold Halt
        rename News _ _ _ _ => N10
        rename Fr _ _ _ _ => F10
        rename ∀ p ∈ (D, _) :: _, p.1 ≠ _ => ne1
        rename _ < _ ∧ D < _ ∧ R < _ ∧ PL < _ ∧ DD < _ ∧ _ => lW2
        rename IntsAre _ (timesI p st.1 one) => iw1
        obtain ⟨ga, gv, eg, lcg, hgi⟩ := get_lot (d := (ov.length : Int) - 1) N10 rfl hlo (fun q hq => mem_up6 (inL q hq))
        refine get_here N10 (.tail _ (.tail _ (.tail _ (.tail _ (.tail _ (.head _)))))) hd0 loD eg ?_
        (repeat' (first | ((with_reducible show wpAny _ _ (call (Value.ref 165) _) _ _ _); refine halt ?_) | ((with_reducible show wpAny _ _ (call (Value.ref 122) _) _ _ _); refine halt ?_) | ((with_reducible show wpAny _ _ (call (Value.ref 134) _) _ _ _); refine halt ?_) | (k_here; (with_reducible show wpAny _ _ (call (Value.ref 148) [Value.ref _, Value.ref _, Value.int _ _]) _ _ _); k_dflt (refine' use_L (lawtimes_ok ?x1 ?x2 ?x3 ?x4 ?x5 ?x6 ?x7 ?x8 ?x9) ?k1 ?k2 ?_ rfl ?d1 ?d2; (case k1 => k_asm); (case k2 => k_asm); (case x1 => k_in); (case x2 => exact Top.keeps (by assumption) (Fr.keep (by k_asm))); (case x3 => is_list); (case x4 => l_ints); (case x5 => is_list); (case x6 => l_ints); (case x7 => (first | assumption | omega)); (case x8 => (first | assumption | omega)); (case x9 => (first | assumption | omega)); (case d1 => exact Nat.le_of_ble_eq_true rfl); (case d2 => exact Nat.le_of_ble_eq_true rfl)); (intro l' vs' n' h' tk' F' N' ne' i'); (try k_sweep)) | (k_here; (with_reducible show wpAny _ _ (call (Value.ref 127) [Value.ref _]) _ _ _); k_dflt (refine' use_draws (draws_ok ?x1 ?x2 ?x3 ?x4 ?x5) ?k1 ?k2 ?_ rfl ?d1 ?d2; (case k1 => k_asm); (case k2 => k_asm); (case x1 => k_in); (case x2 => exact Top.keeps (by assumption) (Fr.keep (by k_asm))); (case x3 => is_list); (case x4 => l_ints); (case x5 => (first | assumption | omega)); (case d1 => exact Nat.le_of_ble_eq_true rfl); (case d2 => exact Nat.le_of_ble_eq_true rfl)); (intro D R sd' ts' n' rs' j' xs' h' tk' F' N' dr' dD' dR' ih' hl' hs'); (try k_sweep)) | walk1 | (dsimp only; walk1)))
        unfold Halt
        rename News _ _ _ _ => N11
        rename Fr _ _ _ _ => F11
        rename ∀ p ∈ (_, _) :: (_, _) :: (D, _) :: _, p.1 ≠ _ => ne2
        rename IntsAre _ (timesI p ((l3get _ _).getD [1]) one) => iw2
        rename_i za zv zn _ _ _ _ _ _
        refine kda_set (knd := PySem.intKind _ _) F11 N11 (.tail (Ne.symm (ne2 (DD, _) (.tail _ (.tail _ (.tail _ (.tail _ (.tail _ (.head _)))))))) (.tail (Nat.ne_of_gt lW2.2.2.2.2.1) (.tail (Ne.symm (ne1 (DD, _) (.tail _ (.tail _ (.tail _ (.head _)))))) (.tail (Nat.ne_of_lt lDD.2.1) (.tail (Nat.ne_of_lt lDD.2.2.1) (.tail (Nat.ne_of_lt lDD.1) (.head (List.forall_mem_cons.mpr ⟨Nat.ne_of_lt lDD.2.2.2.1, tDD⟩)))))))) hd0 (intKind_is _ _ _ _) (by have := hlo.len; rw [PySem.sizeLine_eq]; omega) ?_
        intro h5 ob' F12 N12 hd1
        (repeat' (first | ((with_reducible show wpAny _ _ (call (Value.ref 165) _) _ _ _); refine halt ?_) | ((with_reducible show wpAny _ _ (call (Value.ref 122) _) _ _ _); refine halt ?_) | ((with_reducible show wpAny _ _ (call (Value.ref 134) _) _ _ _); refine halt ?_) | (k_here; (with_reducible show wpAny _ _ (call (Value.ref 148) [Value.ref _, Value.ref _, Value.int _ _]) _ _ _); k_dflt (refine' use_L (lawtimes_ok ?x1 ?x2 ?x3 ?x4 ?x5 ?x6 ?x7 ?x8 ?x9) ?k1 ?k2 ?_ rfl ?d1 ?d2; (case k1 => k_asm); (case k2 => k_asm); (case x1 => k_in); (case x2 => exact Top.keeps (by assumption) (Fr.keep (by k_asm))); (case x3 => is_list); (case x4 => l_ints); (case x5 => is_list); (case x6 => l_ints); (case x7 => (first | assumption | omega)); (case x8 => (first | assumption | omega)); (case x9 => (first | assumption | omega)); (case d1 => exact Nat.le_of_ble_eq_true rfl); (case d2 => exact Nat.le_of_ble_eq_true rfl)); (intro l' vs' n' h' tk' F' N' ne' i'); (try k_sweep)) | (k_here; (with_reducible show wpAny _ _ (call (Value.ref 127) [Value.ref _]) _ _ _); k_dflt (refine' use_draws (draws_ok ?x1 ?x2 ?x3 ?x4 ?x5) ?k1 ?k2 ?_ rfl ?d1 ?d2; (case k1 => k_asm); (case k2 => k_asm); (case x1 => k_in); (case x2 => exact Top.keeps (by assumption) (Fr.keep (by k_asm))); (case x3 => is_list); (case x4 => l_ints); (case x5 => (first | assumption | omega)); (case d1 => exact Nat.le_of_ble_eq_true rfl); (case d2 => exact Nat.le_of_ble_eq_true rfl)); (intro D R sd' ts' n' rs' j' xs' h' tk' F' N' dr' dD' dR' ih' hl' hs'); (try k_sweep)) | walk1 | (dsimp only; walk1)))
        try unfold Halt
        (first | refine hRq2 _ _ ?_ | refine hRq _ _ ?_)
        refine TurnEnd.intro ⟨sd, ts, n, rs, j, xs, pv.eraseIdx k, pn + 1, za, zv, zn, ob', stored kvs ((ov.length : Int) - 1) (.ref l'), (l', listOf vs'.toArray n') :: (za, listOf zv.toArray zn) :: led, rem.eraseIdx k, stepS p st one⟩ F12 N12 (mem_eight inL inB) (fun q hq => .tail _ (.tail _ (mem_up6 (inO q hq)))) (off_grow hoi (fun q hq => ne2 q (.tail _ (mem_up6 (inO q hq)))) (fun q hq => ne1 q (mem_up5 (inO q hq)))) (by kst_all) (by intro z h2 h3; simp only [List.contains_cons, List.contains_nil, Bool.or_false, Bool.or_eq_false_iff, beq_eq_false_iff_ne, ne_eq] at h3; (try simp only [List.forall_mem_cons, List.not_mem_nil, false_implies, implies_true, and_true, ne_eq] at h2); simp [h2, h3, mapB, kstB]) ?_
        refine ⟨ih, hl, hs, rows'.eraseIdx k, ⟨_, _, k, one, hre, hky, rfl, rfl⟩, .tail _ (.head _), ?_, hd1, ?_, ?_⟩
        · rw [step_yes (by rw [← hwi.length, ← hoi1.length]; omega)]; exact iw1
        · rw [step_yes (by rw [← hwi.length, ← hoi1.length]; omega), ← hoi1.length]
          exact (hlo.more (fun q hq => .tail _ (.tail _ hq))).set (by rw [hoi1.length]; exact row_deg hone) (.head _) iw2
        · refine List.forall_mem_cons.mpr ⟨⟨Ne.symm (ne2 (D, _) (.tail _ (.tail _ (.head _)))), Ne.symm (ne2 (R, _) (.tail _ (.tail _ (.tail _ (.head _))))), Ne.symm (ne2 (PL, _) (.tail _ (.tail _ (.tail _ (.tail _ (.head _)))))), Ne.symm (ne2 (DD, _) (.tail _ (.tail _ (.tail _ (.tail _ (.tail _ (.head _))))))), Ne.symm (ne2 (_, _) (.tail _ (.tail _ (.tail _ (.tail _ (.tail _ (.tail _ (.head _))))))))⟩, List.forall_mem_cons.mpr ⟨⟨Ne.symm (ne1 (D, _) (.head _)), Ne.symm (ne1 (R, _) (.tail _ (.head _))), Ne.symm (ne1 (PL, _) (.tail _ (.tail _ (.head _)))), Ne.symm (ne1 (DD, _) (.tail _ (.tail _ (.tail _ (.head _))))), Ne.symm (ne1 (_, _) (.tail _ (.tail _ (.tail _ (.tail _ (.head _))))))⟩, hle⟩⟩
      · (repeat' (first | ((with_reducible show wpAny _ _ (call (Value.ref 165) _) _ _ _); refine halt ?_) | ((with_reducible show wpAny _ _ (call (Value.ref 122) _) _ _ _); refine halt ?_) | ((with_reducible show wpAny _ _ (call (Value.ref 134) _) _ _ _); refine halt ?_) | (k_here; (with_reducible show wpAny _ _ (call (Value.ref 148) [Value.ref _, Value.ref _, Value.int _ _]) _ _ _); k_dflt (refine' use_L (lawtimes_ok ?x1 ?x2 ?x3 ?x4 ?x5 ?x6 ?x7 ?x8 ?x9) ?k1 ?k2 ?_ rfl ?d1 ?d2; (case k1 => k_asm); (case k2 => k_asm); (case x1 => k_in); (case x2 => exact Top.keeps (by assumption) (Fr.keep (by k_asm))); (case x3 => is_list); (case x4 => l_ints); (case x5 => is_list); (case x6 => l_ints); (case x7 => (first | assumption | omega)); (case x8 => (first | assumption | omega)); (case x9 => (first | assumption | omega)); (case d1 => exact Nat.le_of_ble_eq_true rfl); (case d2 => exact Nat.le_of_ble_eq_true rfl)); (intro l' vs' n' h' tk' F' N' ne' i'); (try k_sweep)) | (k_here; (with_reducible show wpAny _ _ (call (Value.ref 127) [Value.ref _]) _ _ _); k_dflt (refine' use_draws (draws_ok ?x1 ?x2 ?x3 ?x4 ?x5) ?k1 ?k2 ?_ rfl ?d1 ?d2; (case k1 => k_asm); (case k2 => k_asm); (case x1 => k_in); (case x2 => exact Top.keeps (by assumption) (Fr.keep (by k_asm))); (case x3 => is_list); (case x4 => l_ints); (case x5 => (first | assumption | omega)); (case d1 => exact Nat.le_of_ble_eq_true rfl); (case d2 => exact Nat.le_of_ble_eq_true rfl)); (intro D R sd' ts' n' rs' j' xs' h' tk' F' N' dr' dD' dR' ih' hl' hs'); (try k_sweep)) | walk1 | (dsimp only; walk1)))
        try unfold Halt
        rename News _ _ _ _ => N10
        rename Fr _ _ _ _ => F10
        (first | refine hRq2 _ _ ?_ | refine hRq _ _ ?_)
        refine TurnEnd.intro ⟨sd, ts, n, rs, j, xs, pv.eraseIdx k, pn + 1, wa, wv, wn, ob, kvs, led, rem.eraseIdx k, st⟩ F10 N10 (mem_five inL inB) (fun q hq => mem_up5 (inO q hq)) hoi (by kst_all) (by intro z h2 h3; simp only [List.contains_cons, List.contains_nil, Bool.or_false, Bool.or_eq_false_iff, beq_eq_false_iff_ne, ne_eq] at h3; (try simp only [List.forall_mem_cons, List.not_mem_nil, false_implies, implies_true, and_true, ne_eq] at h2); simp [h2, h3, mapB, kstB]) ?_
        exact ⟨ih, hl, hs, rows'.eraseIdx k, ⟨_, _, k, one, hre, hky, rfl, (step_no (by rw [← hwi.length, ← hoi1.length]; omega)).symm⟩, hwm, hwi, hd0, hlo, hle⟩
    · rintro ⟨sd, ts, n, rs, j, xs, pv, pn, wa, wv, wn, ob, kvs, led, rem, st⟩ u h tk ⟨ih, hl, hs, rows', hre, hwm, hwi, hd0, hlo, hle⟩ F' N'
      dsimp only at ih hl hs rows' hre hwm hwi hd0 hlo hle
      clear N1 N4 N6 F4 F6
      have hk4 : ((k2 : Int) - 0).toNat = k2 := by omega
      rw [hk4] at hre
      obtain ⟨hro', hst1, hst2⟩ := reach_ok hp0 hro _ _ _ hre
      have hgd := hgood k2 rem st (by omega) hre
      replace N' : News _ _ h ((D, listOf (List.toArray [.ref R, .int sd ts]) n) :: (R, listOf rs.toArray j) :: (PL, listOf pv.toArray pn) :: (DD, ob) :: (_, _) :: (led ++ (ext ++ own))) := N'
      change Fr _ _ h _ at F'
      have hpw : Po p st.1 := ⟨hst1.rg, hst1.trm, Nat.le_trans hst1.len (by omega)⟩
      have hpos := reach_pos hp0 hro hre hgd
      have inL : ∀ q ∈ led, q ∈ led ++ (ext ++ own) := fun q hq => List.mem_append_left _ hq
      have inW : ∀ q ∈ own, q ∈ led ++ (ext ++ own) := fun q hq => List.mem_append_right _ (List.mem_append_right _ hq)
      generalize led ++ (ext ++ own) = Tl at N' inL inW
      (repeat' (first | ((with_reducible show wpAny _ _ (call (Value.ref 165) _) _ _ _); refine halt ?_) | ((with_reducible show wpAny _ _ (call (Value.ref 122) _) _ _ _); refine halt ?_) | ((with_reducible show wpAny _ _ (call (Value.ref 134) _) _ _ _); refine halt ?_) | (k_here; (with_reducible show wpAny _ _ (call (Value.ref 148) [Value.ref _, Value.ref _, Value.int _ _]) _ _ _); k_dflt (refine' use_L (lawtimes_ok ?x1 ?x2 ?x3 ?x4 ?x5 ?x6 ?x7 ?x8 ?x9) ?k1 ?k2 ?_ rfl ?d1 ?d2; (case k1 => k_asm); (case k2 => k_asm); (case x1 => k_in); (case x2 => exact Top.keeps (by assumption) (Fr.keep (by k_asm))); (case x3 => is_list); (case x4 => l_ints); (case x5 => is_list); (case x6 => l_ints); (case x7 => (first | assumption | omega)); (case x8 => (first | assumption | omega)); (case x9 => (first | assumption | omega)); (case d1 => exact Nat.le_of_ble_eq_true rfl); (case d2 => exact Nat.le_of_ble_eq_true rfl)); (intro l' vs' n' h' tk' F' N' ne' i'); (try k_sweep)) | (k_here; (with_reducible show wpAny _ _ (call (Value.ref 127) [Value.ref _]) _ _ _); k_dflt (refine' use_draws (draws_ok ?x1 ?x2 ?x3 ?x4 ?x5) ?k1 ?k2 ?_ rfl ?d1 ?d2; (case k1 => k_asm); (case k2 => k_asm); (case x1 => k_in); (case x2 => exact Top.keeps (by assumption) (Fr.keep (by k_asm))); (case x3 => is_list); (case x4 => l_ints); (case x5 => (first | assumption | omega)); (case d1 => exact Nat.le_of_ble_eq_true rfl); (case d2 => exact Nat.le_of_ble_eq_true rfl)); (intro D R sd' ts' n' rs' j' xs' h' tk' F' N' dr' dD' dR' ih' hl' hs'); (try k_sweep)) | walk1 | (dsimp only; walk1)))
      unfold Halt
      rename News _ _ _ _ => N7
      rename Fr _ _ _ _ => F7
      have nW := N7 (wa, _) (mem_up5 (inL _ hwm))
      refine use_dd (dd_ok (hx := onlyAt h wa) (by k_in) (by exact Top.keeps (by assumption) (Fr.keep (by k_asm))) (News.isList N7 (mem_up5 (inL _ hwm))) hwi hp0 hpw hpos hgd onlyAt_stays (onlyAt_list nW.1)) F7 N7 ?_ rfl (Nat.le_of_ble_eq_true rfl) (Nat.le_of_ble_eq_true rfl)
      intro dl dvs dn dext h6 tk6 F8 N8 hdl hpi
      replace N8 := News.sub N8 mem_M
      have inL' : ∀ q ∈ led, q ∈ dext ++ Tl := fun q hq => List.mem_append_right _ (inL q hq)
      have inW' : ∀ q ∈ own, q ∈ dext ++ Tl := fun q hq => List.mem_append_right _ (inW q hq)
      have inX' : ∀ q ∈ dext, q ∈ dext ++ Tl := fun q hq => List.mem_append_left _ hq
      generalize dext ++ Tl = Tm at N8 inL' inW' inX'
      clear N7 F7 inL inW
      (repeat' (first | ((with_reducible show wpAny _ _ (call (Value.ref 165) _) _ _ _); refine halt ?_) | ((with_reducible show wpAny _ _ (call (Value.ref 122) _) _ _ _); refine halt ?_) | ((with_reducible show wpAny _ _ (call (Value.ref 134) _) _ _ _); refine halt ?_) | (k_here; (with_reducible show wpAny _ _ (call (Value.ref 148) [Value.ref _, Value.ref _, Value.int _ _]) _ _ _); k_dflt (refine' use_L (lawtimes_ok ?x1 ?x2 ?x3 ?x4 ?x5 ?x6 ?x7 ?x8 ?x9) ?k1 ?k2 ?_ rfl ?d1 ?d2; (case k1 => k_asm); (case k2 => k_asm); (case x1 => k_in); (case x2 => exact Top.keeps (by assumption) (Fr.keep (by k_asm))); (case x3 => is_list); (case x4 => l_ints); (case x5 => is_list); (case x6 => l_ints); (case x7 => (first | assumption | omega)); (case x8 => (first | assumption | omega)); (case x9 => (first | assumption | omega)); (case d1 => exact Nat.le_of_ble_eq_true rfl); (case d2 => exact Nat.le_of_ble_eq_true rfl)); (intro l' vs' n' h' tk' F' N' ne' i'); (try k_sweep)) | (k_here; (with_reducible show wpAny _ _ (call (Value.ref 127) [Value.ref _]) _ _ _); k_dflt (refine' use_draws (draws_ok ?x1 ?x2 ?x3 ?x4 ?x5) ?k1 ?k2 ?_ rfl ?d1 ?d2; (case k1 => k_asm); (case k2 => k_asm); (case x1 => k_in); (case x2 => exact Top.keeps (by assumption) (Fr.keep (by k_asm))); (case x3 => is_list); (case x4 => l_ints); (case x5 => (first | assumption | omega)); (case d1 => exact Nat.le_of_ble_eq_true rfl); (case d2 => exact Nat.le_of_ble_eq_true rfl)); (intro D R sd' ts' n' rs' j' xs' h' tk' F' N' dr' dD' dR' ih' hl' hs'); (try k_sweep)) | walk1 | (dsimp only; walk1)))
      unfold Halt
      rename News _ _ _ _ => N9
      rename Fr _ _ _ _ => F9
      refine comp_map (by assumption) (by with_unfolding_all rfl) (by decide) (by rfl) (by decide) (by rfl) ?_
      (repeat' (first | ((with_reducible show wpAny _ _ (call (Value.ref 165) _) _ _ _); refine halt ?_) | ((with_reducible show wpAny _ _ (call (Value.ref 122) _) _ _ _); refine halt ?_) | ((with_reducible show wpAny _ _ (call (Value.ref 134) _) _ _ _); refine halt ?_) | (k_here; (with_reducible show wpAny _ _ (call (Value.ref 148) [Value.ref _, Value.ref _, Value.int _ _]) _ _ _); k_dflt (refine' use_L (lawtimes_ok ?x1 ?x2 ?x3 ?x4 ?x5 ?x6 ?x7 ?x8 ?x9) ?k1 ?k2 ?_ rfl ?d1 ?d2; (case k1 => k_asm); (case k2 => k_asm); (case x1 => k_in); (case x2 => exact Top.keeps (by assumption) (Fr.keep (by k_asm))); (case x3 => is_list); (case x4 => l_ints); (case x5 => is_list); (case x6 => l_ints); (case x7 => (first | assumption | omega)); (case x8 => (first | assumption | omega)); (case x9 => (first | assumption | omega)); (case d1 => exact Nat.le_of_ble_eq_true rfl); (case d2 => exact Nat.le_of_ble_eq_true rfl)); (intro l' vs' n' h' tk' F' N' ne' i'); (try k_sweep)) | (k_here; (with_reducible show wpAny _ _ (call (Value.ref 127) [Value.ref _]) _ _ _); k_dflt (refine' use_draws (draws_ok ?x1 ?x2 ?x3 ?x4 ?x5) ?k1 ?k2 ?_ rfl ?d1 ?d2; (case k1 => k_asm); (case k2 => k_asm); (case x1 => k_in); (case x2 => exact Top.keeps (by assumption) (Fr.keep (by k_asm))); (case x3 => is_list); (case x4 => l_ints); (case x5 => (first | assumption | omega)); (case d1 => exact Nat.le_of_ble_eq_true rfl); (case d2 => exact Nat.le_of_ble_eq_true rfl)); (intro D R sd' ts' n' rs' j' xs' h' tk' F' N' dr' dD' dR' ih' hl' hs'); (try k_sweep)) | walk1 | (dsimp only; walk1)))
      unfold Halt
      rename News _ _ _ _ => N10
      rename Fr _ _ _ _ => F10
      refine sorted_dict rfl F10 N10 (.tail _ (.tail _ (.tail _ (.head _)))) hd0 loD (by have := hlo.len; omega) ?_
      intro B h7 tk7 bvs bns bn F11 N11 neB hbi hbp hbs
      obtain rfl := lots_sorted hlo hbp hbs
      have hbl := hbi.length
      have h3l : (List.filter (fun d => (l3get st.2 d).isSome) [1, 2, 3]).length ≤ 3 := List.length_filter_le _ _
      refine ⟨_, _, bn, _, (fun i ys ex => PairsIn (onlyAt h wa) (ex ++ Tm) ys ((expectS st.2).take i)), rfl, rfl, .head _, by rw [PySem.sizeLine_eq]; omega, F11, N11, .nil, ?_, ?_⟩
      · intro g q ys v ex I oI C2 oC D2 m₂ h8 tk8 E' hv hP hC hx F12 N12 off
        obtain ⟨z, tz, hz, rfl⟩ := ints_nth hbi hv
        obtain ⟨xs0, hxs0⟩ := Option.isSome_iff_exists.mp ((List.mem_filter.mp (List.mem_of_getElem? hz)).2)
        obtain ⟨la, lus, ln, hva, hlm, hli⟩ := hlo.there z xs0 hxs0
        have N12' := News.sub N12 (mem_two (.tail _ (.tail _ (.tail _ (.tail _ (.tail _ (.head _)))))) (.tail _ (.tail _ (.tail _ (.tail _ (.head _))))))
        (repeat' (first | ((with_reducible show wpAny _ _ (call (Value.ref 165) _) _ _ _); refine halt ?_) | ((with_reducible show wpAny _ _ (call (Value.ref 122) _) _ _ _); refine halt ?_) | ((with_reducible show wpAny _ _ (call (Value.ref 134) _) _ _ _); refine halt ?_) | (k_here; (with_reducible show wpAny _ _ (call (Value.ref 148) [Value.ref _, Value.ref _, Value.int _ _]) _ _ _); k_dflt (refine' use_L (lawtimes_ok ?x1 ?x2 ?x3 ?x4 ?x5 ?x6 ?x7 ?x8 ?x9) ?k1 ?k2 ?_ rfl ?d1 ?d2; (case k1 => k_asm); (case k2 => k_asm); (case x1 => k_in); (case x2 => exact Top.keeps (by assumption) (Fr.keep (by k_asm))); (case x3 => is_list); (case x4 => l_ints); (case x5 => is_list); (case x6 => l_ints); (case x7 => (first | assumption | omega)); (case x8 => (first | assumption | omega)); (case x9 => (first | assumption | omega)); (case d1 => exact Nat.le_of_ble_eq_true rfl); (case d2 => exact Nat.le_of_ble_eq_true rfl)); (intro l' vs' n' h' tk' F' N' ne' i'); (try k_sweep)) | (k_here; (with_reducible show wpAny _ _ (call (Value.ref 127) [Value.ref _]) _ _ _); k_dflt (refine' use_draws (draws_ok ?x1 ?x2 ?x3 ?x4 ?x5) ?k1 ?k2 ?_ rfl ?d1 ?d2; (case k1 => k_asm); (case k2 => k_asm); (case x1 => k_in); (case x2 => exact Top.keeps (by assumption) (Fr.keep (by k_asm))); (case x3 => is_list); (case x4 => l_ints); (case x5 => (first | assumption | omega)); (case d1 => exact Nat.le_of_ble_eq_true rfl); (case d2 => exact Nat.le_of_ble_eq_true rfl)); (intro D R sd' ts' n' rs' j' xs' h' tk' F' N' dr' dD' dR' ih' hl' hs'); (try k_sweep)) | walk1 | (dsimp only; walk1)))
        all_goals try unfold Halt
        rename News _ _ _ _ => N14
        rename Fr _ _ _ _ => F14
        refine kdt_tail (knd := PySem.intKind _ _) N14 (.tail _ (.tail _ (.tail _ (.tail _ (.head _))))) hd0 ?_
        refine kdt_getItem (knd := PySem.intKind _ _) N14 (.tail _ (.tail _ (.tail _ (.tail _ (.head _))))) hd0 (intKind_is _ _ _ _) hva ?_
        (repeat' (first | ((with_reducible show wpAny _ _ (call (Value.ref 165) _) _ _ _); refine halt ?_) | ((with_reducible show wpAny _ _ (call (Value.ref 122) _) _ _ _); refine halt ?_) | ((with_reducible show wpAny _ _ (call (Value.ref 134) _) _ _ _); refine halt ?_) | (k_here; (with_reducible show wpAny _ _ (call (Value.ref 148) [Value.ref _, Value.ref _, Value.int _ _]) _ _ _); k_dflt (refine' use_L (lawtimes_ok ?x1 ?x2 ?x3 ?x4 ?x5 ?x6 ?x7 ?x8 ?x9) ?k1 ?k2 ?_ rfl ?d1 ?d2; (case k1 => k_asm); (case k2 => k_asm); (case x1 => k_in); (case x2 => exact Top.keeps (by assumption) (Fr.keep (by k_asm))); (case x3 => is_list); (case x4 => l_ints); (case x5 => is_list); (case x6 => l_ints); (case x7 => (first | assumption | omega)); (case x8 => (first | assumption | omega)); (case x9 => (first | assumption | omega)); (case d1 => exact Nat.le_of_ble_eq_true rfl); (case d2 => exact Nat.le_of_ble_eq_true rfl)); (intro l' vs' n' h' tk' F' N' ne' i'); (try k_sweep)) | (k_here; (with_reducible show wpAny _ _ (call (Value.ref 127) [Value.ref _]) _ _ _); k_dflt (refine' use_draws (draws_ok ?x1 ?x2 ?x3 ?x4 ?x5) ?k1 ?k2 ?_ rfl ?d1 ?d2; (case k1 => k_asm); (case k2 => k_asm); (case x1 => k_in); (case x2 => exact Top.keeps (by assumption) (Fr.keep (by k_asm))); (case x3 => is_list); (case x4 => l_ints); (case x5 => (first | assumption | omega)); (case d1 => exact Nat.le_of_ble_eq_true rfl); (case d2 => exact Nat.le_of_ble_eq_true rfl)); (intro D R sd' ts' n' rs' j' xs' h' tk' F' N' dr' dD' dR' ih' hl' hs'); (try k_sweep)) | walk1 | (dsimp only; walk1)))
        unfold Halt
        rename News _ _ _ _ => N15
        rename Fr _ _ _ _ => F15
        refine newTuple_N F15 N15 ?_ (by rw [PySem.sizeLine_eq]; exact Nat.le_of_ble_eq_true rfl)
        intro h9 F16 N16
        obtain ⟨T2, hT2⟩ := name_head N16
        have lI := Heap.lt_size (N15 (I, _) (.head _)).1
        have lC := Heap.lt_size (N15 (C2, _) (.tail _ (.head _))).1
        have lD := Heap.lt_size (N15 (D2, _) (.tail _ (.tail _ (.head _)))).1
        rw [← hT2] at N16 lI lC lD ⊢
        refine MpEnd.intro ((T2, _) :: ex) F16 (News.sub N16 mem_back) (Off3.cons' ⟨Nat.ne_of_gt lI, Nat.ne_of_gt lC, Nat.ne_of_gt lD⟩ off) ?_
        exact pairs_step hP (expect_step hz hxs0) (inL' _ hlm) hli
      · intro D2 h8 tk8 ys ex F12 N12 neD hP
        rw [List.take_of_length_le (by rw [expectS_eq, List.length_map, hbl]; exact Nat.le_refl _)] at hP
        (repeat' (first | ((with_reducible show wpAny _ _ (call (Value.ref 165) _) _ _ _); refine halt ?_) | ((with_reducible show wpAny _ _ (call (Value.ref 122) _) _ _ _); refine halt ?_) | ((with_reducible show wpAny _ _ (call (Value.ref 134) _) _ _ _); refine halt ?_) | (k_here; (with_reducible show wpAny _ _ (call (Value.ref 148) [Value.ref _, Value.ref _, Value.int _ _]) _ _ _); k_dflt (refine' use_L (lawtimes_ok ?x1 ?x2 ?x3 ?x4 ?x5 ?x6 ?x7 ?x8 ?x9) ?k1 ?k2 ?_ rfl ?d1 ?d2; (case k1 => k_asm); (case k2 => k_asm); (case x1 => k_in); (case x2 => exact Top.keeps (by assumption) (Fr.keep (by k_asm))); (case x3 => is_list); (case x4 => l_ints); (case x5 => is_list); (case x6 => l_ints); (case x7 => (first | assumption | omega)); (case x8 => (first | assumption | omega)); (case x9 => (first | assumption | omega)); (case d1 => exact Nat.le_of_ble_eq_true rfl); (case d2 => exact Nat.le_of_ble_eq_true rfl)); (intro l' vs' n' h' tk' F' N' ne' i'); (try k_sweep)) | (k_here; (with_reducible show wpAny _ _ (call (Value.ref 127) [Value.ref _]) _ _ _); k_dflt (refine' use_draws (draws_ok ?x1 ?x2 ?x3 ?x4 ?x5) ?k1 ?k2 ?_ rfl ?d1 ?d2; (case k1 => k_asm); (case k2 => k_asm); (case x1 => k_in); (case x2 => exact Top.keeps (by assumption) (Fr.keep (by k_asm))); (case x3 => is_list); (case x4 => l_ints); (case x5 => (first | assumption | omega)); (case d1 => exact Nat.le_of_ble_eq_true rfl); (case d2 => exact Nat.le_of_ble_eq_true rfl)); (intro D R sd' ts' n' rs' j' xs' h' tk' F' N' dr' dD' dR' ih' hl' hs'); (try k_sweep)) | walk1 | (dsimp only; walk1)))
        unfold Halt
        obtain ⟨as1, ra1⟩ := pairs_read hpi (onlyAt_keeps nW.1 (N12 (wa, _) (.tail _ (List.mem_append_right _ (.tail _ (mem_up5 (inL' _ hwm)))))).1) (News.sub N12 (fun q hq => .tail _ (List.mem_append_right _ (.tail _ (mem_up5 (inX' q hq)))))) (N12 (dl, _) (.tail _ (List.mem_append_right _ (.tail _ (mem_up5 (inX' _ hdl)))))).1
        obtain ⟨as2, ra2⟩ := pairs_read hP (onlyAt_keeps nW.1 (N12 (wa, _) (.tail _ (List.mem_append_right _ (.tail _ (mem_up5 (inL' _ hwm)))))).1) (News.sub N12 (fun q hq => (List.mem_append.mp hq).elim (fun h => .tail _ (List.mem_append_left _ h)) (fun h => .tail _ (List.mem_append_right _ (.tail _ (mem_up5 h)))))) (N12 (D2, _) (.head _)).1
        refine ne_pairs ra1 ra2 (by ke_room) ?_
        (repeat' (first | ((with_reducible show wpAny _ _ (call (Value.ref 165) _) _ _ _); refine halt ?_) | ((with_reducible show wpAny _ _ (call (Value.ref 122) _) _ _ _); refine halt ?_) | ((with_reducible show wpAny _ _ (call (Value.ref 134) _) _ _ _); refine halt ?_) | (k_here; (with_reducible show wpAny _ _ (call (Value.ref 148) [Value.ref _, Value.ref _, Value.int _ _]) _ _ _); k_dflt (refine' use_L (lawtimes_ok ?x1 ?x2 ?x3 ?x4 ?x5 ?x6 ?x7 ?x8 ?x9) ?k1 ?k2 ?_ rfl ?d1 ?d2; (case k1 => k_asm); (case k2 => k_asm); (case x1 => k_in); (case x2 => exact Top.keeps (by assumption) (Fr.keep (by k_asm))); (case x3 => is_list); (case x4 => l_ints); (case x5 => is_list); (case x6 => l_ints); (case x7 => (first | assumption | omega)); (case x8 => (first | assumption | omega)); (case x9 => (first | assumption | omega)); (case d1 => exact Nat.le_of_ble_eq_true rfl); (case d2 => exact Nat.le_of_ble_eq_true rfl)); (intro l' vs' n' h' tk' F' N' ne' i'); (try k_sweep)) | (k_here; (with_reducible show wpAny _ _ (call (Value.ref 127) [Value.ref _]) _ _ _); k_dflt (refine' use_draws (draws_ok ?x1 ?x2 ?x3 ?x4 ?x5) ?k1 ?k2 ?_ rfl ?d1 ?d2; (case k1 => k_asm); (case k2 => k_asm); (case x1 => k_in); (case x2 => exact Top.keeps (by assumption) (Fr.keep (by k_asm))); (case x3 => is_list); (case x4 => l_ints); (case x5 => (first | assumption | omega)); (case d1 => exact Nat.le_of_ble_eq_true rfl); (case d2 => exact Nat.le_of_ble_eq_true rfl)); (intro D R sd' ts' n' rs' j' xs' h' tk' F' N' dr' dD' dR' ih' hl' hs'); (try k_sweep)) | walk1 | (dsimp only; walk1)))
        try unfold Halt
        rename News _ _ _ _ => N13
        rename Fr _ _ _ _ => F13
        (first | refine hRq2 _ _ ?_ | refine hRq _ _ ?_)
        refine TurnEnd.intro ⟨sd, ts, n, rs, j, xs, _⟩ F13 (News.sub N13 (fun q hq => .tail _ (List.mem_append_right _ (.tail _ hq)))) ?_ (fun q hq => mem_up5 (inW' q hq)) hoff (by intro p hp; cases hp) (by intro z h2 h3; simp only [List.contains_cons, List.contains_nil, Bool.or_false, Bool.or_eq_false_iff, beq_eq_false_iff_ne, ne_eq] at h3; (try simp only [List.forall_mem_cons, List.not_mem_nil, false_implies, implies_true, and_true, ne_eq] at h2); simp [h2, h3, mapB, kstB]) ⟨ih, hl, hs, _, by assumption⟩
        intro q hq
        change q ∈ [_, _, _] at hq
        simp only [List.mem_cons, List.not_mem_nil, or_false] at hq ⊢
        rcases hq with h | h | h <;> simp [h]
  · rintro ⟨sd, ts, n, rs, j, xs, o⟩ u h tk ⟨ih, hl, hs, v, ho⟩ F' N'
    dsimp only at ih hl hs ho
    change Fr _ _ h _ at F'
    (repeat' (first | ((with_reducible show wpAny _ _ (call (Value.ref 165) _) _ _ _); refine halt ?_) | ((with_reducible show wpAny _ _ (call (Value.ref 122) _) _ _ _); refine halt ?_) | ((with_reducible show wpAny _ _ (call (Value.ref 134) _) _ _ _); refine halt ?_) | (k_here; (with_reducible show wpAny _ _ (call (Value.ref 148) [Value.ref _, Value.ref _, Value.int _ _]) _ _ _); k_dflt (refine' use_L (lawtimes_ok ?x1 ?x2 ?x3 ?x4 ?x5 ?x6 ?x7 ?x8 ?x9) ?k1 ?k2 ?_ rfl ?d1 ?d2; (case k1 => k_asm); (case k2 => k_asm); (case x1 => k_in); (case x2 => exact Top.keeps (by assumption) (Fr.keep (by k_asm))); (case x3 => is_list); (case x4 => l_ints); (case x5 => is_list); (case x6 => l_ints); (case x7 => (first | assumption | omega)); (case x8 => (first | assumption | omega)); (case x9 => (first | assumption | omega)); (case d1 => exact Nat.le_of_ble_eq_true rfl); (case d2 => exact Nat.le_of_ble_eq_true rfl)); (intro l' vs' n' h' tk' F' N' ne' i'); (try k_sweep)) | (k_here; (with_reducible show wpAny _ _ (call (Value.ref 127) [Value.ref _]) _ _ _); k_dflt (refine' use_draws (draws_ok ?x1 ?x2 ?x3 ?x4 ?x5) ?k1 ?k2 ?_ rfl ?d1 ?d2; (case k1 => k_asm); (case k2 => k_asm); (case x1 => k_in); (case x2 => exact Top.keeps (by assumption) (Fr.keep (by k_asm))); (case x3 => is_list); (case x4 => l_ints); (case x5 => (first | assumption | omega)); (case d1 => exact Nat.le_of_ble_eq_true rfl); (case d2 => exact Nat.le_of_ble_eq_true rfl)); (intro D R sd' ts' n' rs' j' xs' h' tk' F' N' dr' dD' dR' ih' hl' hs'); (try k_sweep)) | walk1 | (dsimp only; walk1)))
    dsimp only
    rename Fr _ _ _ _ => F9
    first | wrow_close | walk1
    )
end
end
end
end Mine
end
set_option maxRecDepth 100000 in
set_option maxHeartbeats 8000000 in
theorem PySem.Challenge.cw_nn0250_01_holds : PySem.Challenge.rw_nn0250_01.Holds := by
  exact Mine.law_holds
