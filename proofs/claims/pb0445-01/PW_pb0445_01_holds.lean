import PyProof.Rows.All
import Wide.All
import OpenK.AllK
import Wide.FinOn
import Lean
import PySem.Challenge.RW_pb0445_01
open PySem PySem.W PySem.Calls PyProof.Rows
set_option Elab.async false
set_option maxRecDepth 100000
section
namespace Mine
set_option maxHeartbeats 8000000 in
open_top hd for PySem.Challenge.rw_pb0445_01

/-- what stands around a call, told by two numbers alone -/
abbrev Aro (d u : Nat) : Around := { handled := none, depth := d, frames := none, guards := none, units := u }

theorem in_aro {Γ : Ctx} {A : Around} {d u : Nat} (hΓ : Γ.In A) (hh : A.handled = none) (hd : A.depth ≤ d) (hu : A.units ≤ u) : Γ.In (Aro d u) :=
  ⟨hΓ.1.trans hh, Nat.le_trans hΓ.2.1 hd, (fun _ e => by cases e), (fun _ e => by cases e), Nat.le_trans hΓ.2.2.2.2 hu⟩

/-- a tree's walk at the numbers alone serves wherever less stands around -/
theorem aro {α : Type} {M : Model} {A : Around} {t : Sem α} {Q : α → Shared → Prop} {E : Value → Shared → Prop} {s : Shared} (d u : Nat)
    (h : wpAny M (Aro d u) t Q (fun _ _ => False) s) (hh : A.handled = none) (hd : A.depth ≤ d) (hu : A.units ≤ u) : wpAny M A t Q E s :=
  fun Γ p hΓ => Sem.wp_mono M Γ t (fun _ _ _ x => x) (fun _ _ _ x => x.elim) p s (h Γ p (in_aro hΓ hh hd hu))

/-- the ledger's objects stand, and are not the base's -/
def Owned (base h : Heap) (led : List (Addr × Obj)) : Prop := ∀ p ∈ led, h.get? p.1 = some p.2 ∧ base.get? p.1 = none

/-- all but these places is as it was -/
def Kept (l : List Addr) (h h' : Heap) : Prop := ∀ b o, h.get? b = some o → b ∉ l → h'.get? b = some o

theorem Kept.trans {l l' : List Addr} {h h' h'' : Heap} (a : Kept l h h') (b : Kept l' h' h'') : Kept (l ++ l') h h'' :=
  fun x o e n => b x o (a x o e fun q => n (List.mem_append_left _ q)) fun q => n (List.mem_append_right _ q)
theorem Kept.mono {l l' : List Addr} {h h' : Heap} (a : Kept l h h') (hs : ∀ x ∈ l, x ∈ l') : Kept l' h h' := fun x o e n => a x o e fun q => n (hs x q)

theorem aroC {M : Model} {A : Around} {c : Code} {R : Result → Shared → Prop} {s : Shared} (d u : Nat)
    (h : codeAny M (Aro d u) c R s) (hh : A.handled = none) (hd : A.depth ≤ d) (hu : A.units ≤ u) : codeAny M A c R s :=
  fun Γ p hc hΓ => h Γ p hc ⟨hΓ.1.trans hh, Nat.le_trans hΓ.2.1 hd, (fun _ e => by cases e), (fun _ e => by cases e), Nat.le_trans hΓ.2.2.2.2 hu⟩
/-- a def's call: its ledger is what it may turn, all else is frozen -/
theorem code_own {prog : Program} {w : World} {A : Around} {s : Shared} {base : Heap} {K : Frag} {p : Program} {loose : List Str} {mean : ExcName → Option Value} {mg mb : Str → Option Value} {led : List (Addr × Obj)}
    {Q : Value → Shared → Prop} {name qual : Str} {params : Arguments} {body : List Stmt} {scope : Scope} {dV kV doc pm cdv ct oc : Value} {an od : Option Addr} {osl : Array (Option Value)} {f : Addr} {args : List Value} {binds : List (Str × Value)}
    (X : K.In base) (T : Top p loose mean mg mb base) (hk : base.StaysIn s.heap) (hled : Owned base s.heap led)
    (ho : K.lookup f = some ⟨oc, od, .func (fnOf name qual params body scope dV kV doc pm an cdv ct), osl⟩) (hcd : codeIn K cdv qual = true) (hroom : A.depth < recursionLimit)
    (hbind : BindsTo s (fnOf name qual params body scope dV kV doc pm an cdv ct) ⟨args, []⟩ binds) (hloc : ∀ y ∈ binds, scope.names.lookup y.1 = some .local)
    (h : ∀ g L' h₁, Fr g L' h₁ (fun y => binds.reverse.lookup y) → News g L' h₁ led → base.StaysIn g → K.In g → Top p loose mean mg mb g → (∀ p ∈ led, p.1 < L') →
      (∀ b o, s.heap.get? b = some o → b ∉ led.map (·.1) → g.get? b = some o) → (∀ b, s.heap.get? b = none → g.get? b = none) →
      wpAny (model prog w) (A.deeper (envOf qual scope L' f cdv)) (execs body (envOf qual scope L' f cdv))
        (fun fl s' => Q (match fl with | .ret v => v | _ => .none) s') (fun _ _ => False)
        { s with heap := h₁, toks := s.toks + binds.length })
    (hco : scope.isCoroutine = false) (hgen : scope.isGenerator = false) (hkd : scope.kind = .function)
    (hcell : ∀ x ∈ scope.names, x.2 ≠ .cell) : codeAny (model prog w) A (.call (.ref f) ⟨args, []⟩) (fun r s' => match r with | .ok (.ret v) => Q v s' | .ok _ => False | .error e => False) s := by
  have st : base.StaysIn (hideAll s.heap (led.map (·.1))) := fun b o e => hideAll_get _ (hk b o e) fun q => by
    obtain ⟨x, hx, rfl⟩ := List.mem_map.mp q
    rw [(hled x hx).2] at e; cases e
  refine codeAny_call_def (fd := fnOf name qual params body scope dV kV doc pm an cdv ct) (body := body) (binds := binds) hroom ((X.keeps hk) _ _ ho) rfl (T.nolimit.keeps hk) (codeRec_of (X.keeps hk) hcd) rfl hbind hcell hloc (fun h₁ hns hk₁ => ?_) hco hgen hkd
  refine wpAny_mono (h (hideAll s.heap (led.map (·.1))) s.heap.objs.size h₁ ⟨hns, fun b o e => hk₁ b o (of_hideAll _ e), Nat.le_of_eq (hideAll_size _ _)⟩
    (fun x hx => ⟨hk₁ _ _ (hled x hx).1, Nat.ne_of_lt (Heap.lt_size (hled x hx).1), hideAll_none _ (List.mem_map_of_mem hx)⟩) st (X.keeps fun b o e => st b o e) (T.keeps fun b o e => st b o e) (fun x hx => Heap.lt_size (hled x hx).1)
    (fun b o e n => hideAll_get _ e n) (fun b e => ?_)) (fun fl s' hl => hl) (fun _ _ x => x.elim)
  cases q : (hideAll s.heap (led.map (·.1))).get? b with
  | none => rfl
  | some o => rw [of_hideAll _ q] at e; cases e

/-- a def's call: its ledger is what it may turn, all else is frozen -/
theorem call_own {prog : Program} {w : World} {A : Around} {s : Shared} {base : Heap} {K : Frag} {p : Program} {loose : List Str} {mean : ExcName → Option Value} {mg mb : Str → Option Value} {led : List (Addr × Obj)}
    {E Q : Value → Shared → Prop} {name qual : Str} {params : Arguments} {body : List Stmt} {scope : Scope} {dV kV doc pm cdv ct oc : Value} {an od : Option Addr} {osl : Array (Option Value)} {f : Addr} {args : List Value} {binds : List (Str × Value)}
    (X : K.In base) (T : Top p loose mean mg mb base) (hk : base.StaysIn s.heap) (hled : Owned base s.heap led)
    (ho : K.lookup f = some ⟨oc, od, .func (fnOf name qual params body scope dV kV doc pm an cdv ct), osl⟩) (hcd : codeIn K cdv qual = true) (hroom : A.depth < recursionLimit)
    (hbind : BindsTo s (fnOf name qual params body scope dV kV doc pm an cdv ct) ⟨args, []⟩ binds) (hloc : ∀ y ∈ binds, scope.names.lookup y.1 = some .local)
    (h : ∀ g L' h₁, Fr g L' h₁ (fun y => binds.reverse.lookup y) → News g L' h₁ led → base.StaysIn g → K.In g → Top p loose mean mg mb g → (∀ p ∈ led, p.1 < L') →
      (∀ b o, s.heap.get? b = some o → b ∉ led.map (·.1) → g.get? b = some o) → (∀ b, s.heap.get? b = none → g.get? b = none) →
      wpAny (model prog w) (A.deeper (envOf qual scope L' f cdv)) (execs body (envOf qual scope L' f cdv))
        (fun fl s' => Q (match fl with | .ret v => v | _ => .none) s') (fun _ _ => False)
        { s with heap := h₁, toks := s.toks + binds.length })
    (hco : scope.isCoroutine = false) (hgen : scope.isGenerator = false) (hkd : scope.kind = .function)
    (hcell : ∀ x ∈ scope.names, x.2 ≠ .cell) : wpAny (model prog w) A (call (.ref f) args) Q E s := by
  refine wpAny_call (codeAny_mono (code_own X T hk hled ho hcd hroom hbind hloc h hco hgen hkd hcell) fun r s' q => ?_)
  match r, q with
  | .ok (.ret v), q => exact q

/-- a caller's frame behind a call that turned what it owned -/
theorem fr_after {base h h' : Heap} {L : Addr} {m : Str → Option Value} {l : List Addr} (F : Fr base L h m) (hl : ∀ a ∈ l, base.get? a = none ∧ a ≠ L) (hk : Kept l h h') : Fr base L h' m := by
  obtain ⟨⟨oL, es, ep, hL, r⟩, k, ab⟩ := F
  refine ⟨⟨oL, es, ep, hk L oL hL fun q => (hl L q).2 rfl, r⟩, fun b o e => hk b o (k b o e) fun q => ?_, ab⟩
  rw [(hl b q).1] at e; cases e


/-- a goal that the walk is to leave alone -/
def Stop (P : Prop) : Prop := P
theorem stop {P : Prop} (h : Stop P) : P := h

theorem kept_of {s : Shared} {g h' : Heap} {L' : Addr} {m : Str → Option Value} {l : List Addr} (F : Fr g L' h' m) (k : ∀ b o, s.heap.get? b = some o → b ∉ l → g.get? b = some o) : Kept l s.heap h' := fun b o e n => F.keep b o (k b o e n)

/-- what a turn of a loop must leave -/
def TurnEnd (h₀ : Heap) (L I : Addr) (oI : Obj) (J : (Str → Option Value) → List (Addr × Obj) → Prop) (s : Shared) (f : Flow) (s₂ : Shared) : Prop :=
  (f = .next ∨ f = .cont) ∧ ∃ h' tk' m₂ news₂, s₂ = { s with heap := h', toks := tk' } ∧ Fr h₀ L h' m₂ ∧ News h₀ L h' ((I, oI) :: news₂) ∧ (∀ p ∈ news₂, p.1 ≠ I) ∧ J m₂ news₂
theorem TurnEnd.intro {h₀ : Heap} {L I : Addr} {oI : Obj} {J : (Str → Option Value) → List (Addr × Obj) → Prop} {s : Shared} {h' : Heap} {tk' : Nat} {m₂ : Str → Option Value} {news₂ : List (Addr × Obj)}
    (F : Fr h₀ L h' m₂) (N : News h₀ L h' ((I, oI) :: news₂)) (hn : ∀ p ∈ news₂, p.1 ≠ I) (hJ : J m₂ news₂) : TurnEnd h₀ L I oI J s .next { s with heap := h', toks := tk' } := ⟨.inl rfl, h', tk', m₂, news₂, rfl, F, N, hn, hJ⟩

theorem range_loop {prog : Program} {w : World} {A : Around} {E : Value → Shared → Prop} {s : Shared} {env : Env} {h₀ : Heap} {x : Str} {body : List Stmt} {Q : Flow → Shared → Prop} {r : Addr} {a b : Int} {t₀ u₀ v₀ : Tok} {m₀ : Str → Option Value} {news : List (Addr × Obj)}
    (J : Nat → (Str → Option Value) → List (Addr × Obj) → Prop)
    (hh : A.handled = none) (hr : IsRange s.heap r a b 1 t₀ u₀ v₀) (ha : -(2 ^ 62) ≤ a ∧ a < 2 ^ 62) (hb : -(2 ^ 62) ≤ b ∧ b < 2 ^ 62) (F : Fr h₀ env.locals s.heap m₀) (N : News h₀ env.locals s.heap news) (hJ : J 0 m₀ news)
    (turn : ∀ (i : Nat) t m₁ news₁ h tk I oI, i < (b - a).toNat → J i m₁ news₁ → (∀ p ∈ news₁, p.1 ≠ I) → s.heap.objs.size ≤ I → Fr h₀ env.locals h (fun y => if y = x then some (.int (a + i) t) else m₁ y) → News h₀ env.locals h ((I, oI) :: news₁) →
      wpAny (model prog w) A (execs body env) (TurnEnd h₀ env.locals I oI (J (i + 1)) s) (fun _ _ => False) { s with heap := h, toks := tk })
    (done : ∀ m₁ news₁ h tk, J (b - a).toNat m₁ news₁ → Fr h₀ env.locals h m₁ → News h₀ env.locals h news₁ → Q .next { s with heap := h, toks := tk }) :
    wpAny (model prog w) A (pyIter (.ref r)) (fun it s₂ => LoopAtV prog w A h₀ env x body Q E it s₂) E s := by
  refine wpAny_pyIter_range hr (small_one ha.1 ha.2 hb.1 hb.2) ?_
  have W : Walks prog w A s.heap.objs.size [s.heap.objs.size] [s.heap.objs.size] (b - a).toNat (fun i v => i < (b - a).toNat ∧ ∃ t, v = .int (a + i * 1) t)
      (fun i h => IsRangeIter h s.heap.objs.size (a + (i : Nat) * 1) (((b - a).toNat : Int) - (i : Nat)) 1) := (Walks.range hh _ a 1 (b - a).toNat).bound
  refine ⟨_, _, _, (b - a).toNat, _, _, m₀, news, J, rfl, W, ?_, ?_, ?_, by show IsRangeIter _ _ _ _ _; rw [rangeSize_nat]; simpa using Heap.get?_push_size _ rfl, F.push _, (fun p hp => ⟨Heap.get?_push_of_some _ (N p hp).1, (N p hp).2⟩), hJ, ?_, ?_⟩
  · intro hm
    exact absurd F.ns.lt ((List.mem_singleton.mp hm) ▸ Nat.lt_irrefl _)
  · intro c hc
    rw [List.mem_singleton.mp hc]
    exact next_is_new F
  · intro p hp hI
    exact absurd (Heap.lt_size (N p hp).1) ((List.mem_singleton.mp hI) ▸ Nat.lt_irrefl _)
  · rintro i v m₁ news₁ s₁ own ⟨hh', tk', rfl⟩ hi ⟨_, t, rfl⟩ hJ' hoff hown hat hall hst F₁ N₁
    obtain ⟨oI, hoI⟩ : ∃ oI, hh'.get? s.heap.objs.size = some oI := ⟨_, hst⟩
    have hm : (s.heap.objs.size, oI) ∈ own := hall _ (List.mem_singleton.mpr rfl) (next_is_new F) oI hoI
    have hone : ∀ p ∈ own, p = (s.heap.objs.size, oI) := fun p hp => by
      have e1 := List.mem_singleton.mp (hown p hp)
      have e2 := hat p hp
      rw [e1] at e2
      have e3 : some oI = some p.2 := hoI.symm.trans e2
      exact Prod.ext e1 (Option.some.inj e3).symm
    have e1 : a + (i : Int) * 1 = a + (i : Int) := by omega
    rw [e1] at F₁
    refine wpAny_mono (turn i t m₁ news₁ hh' tk' s.heap.objs.size oI hi hJ' (fun p hp e => hoff p hp (List.mem_singleton.mpr e)) (Nat.le_refl _) F₁ (fun p hp => (List.mem_cons.mp hp).elim (fun e => e ▸ N₁ _ (List.mem_append_left _ hm)) fun h => N₁ p (List.mem_append_right _ h))) (fun f s₂ q => ?_) fun _ _ e => e.elim
    obtain ⟨hf, h', tk2, m₂, news₂, rfl, F₂, N₂, hn, hJ₂⟩ := q
    have fin : LoopStepU h₀ env.locals [s.heap.objs.size] own (J (i + 1)) { s with heap := hh', toks := tk' } .next { s with heap := h', toks := tk2 } :=
      ⟨rfl, h', tk2, m₂, news₂, rfl, F₂, fun p hp => (List.mem_append.mp hp).elim (fun h => by rw [hone p h]; exact N₂ _ (.head _)) fun h => N₂ p (.tail _ h), fun p hp q => hn p hp (List.mem_singleton.mp q), hJ₂⟩
    rcases hf with rfl | rfl
    · exact .next fin
    · exact .cont fin
  · rintro h' tk m' news' F' N' _ hJ'
    exact done m' news' h' tk hJ' F' N'

/-- the last place of a page, counted from one; 0 for none -/
def lastIn (p : Int) (l : List Int) : Int := (l.foldl (fun (s : Int × Int) x => (s.1 + 1, if x = p then s.1 + 1 else s.2)) (0, 0)).2
theorem lastIn_fst (p : Int) (l : List Int) : (l.foldl (fun (s : Int × Int) x => (s.1 + 1, if x = p then s.1 + 1 else s.2)) (0, 0)).1 = l.length := by
  have : ∀ (l : List Int) (a b : Int), (l.foldl (fun (s : Int × Int) x => (s.1 + 1, if x = p then s.1 + 1 else s.2)) (a, b)).1 = a + l.length := by
    intro l
    induction l with
    | nil => intro a b; simp
    | cons x r ih => intro a b; simp only [List.foldl_cons, List.length_cons]; rw [ih]; omega
  rw [this]; omega
theorem lastIn_nil (p : Int) : lastIn p [] = 0 := rfl
theorem lastIn_snoc (p x : Int) (l : List Int) : lastIn p (l ++ [x]) = if x = p then (l.length : Int) + 1 else lastIn p l := by
  unfold lastIn
  rw [List.foldl_append]
  simp only [List.foldl_cons, List.foldl_nil, lastIn_fst]
theorem take_snoc_get {l : List Int} {i : Nat} (h : i < l.length) : l.take (i + 1) = l.take i ++ [l[i]] := by
  rw [List.take_add_one, List.getElem?_eq_getElem h]; rfl
theorem lastIn_bound (p : Int) (l : List Int) : 0 ≤ lastIn p l ∧ lastIn p l ≤ l.length := by
  have : ∀ n, n ≤ l.length → 0 ≤ lastIn p (l.take n) ∧ lastIn p (l.take n) ≤ n := by
    intro n
    induction n with
    | zero => intro _; simp [lastIn_nil]
    | succ n ih =>
      intro h
      have := ih (by omega)
      rw [take_snoc_get (by omega), lastIn_snoc]
      have e : (l.take n).length = n := by rw [List.length_take]; omega
      rw [e]
      split <;> omega
  have h := this l.length (Nat.le_refl _)
  rwa [List.take_length] at h
/-- what a frame's names hold -/
def Has (m : Str → Option Value) : List (Str × Value) → Prop
  | [] => True
  | p :: r => m p.1 = some p.2 ∧ Has m r
theorem Has.at {m : Str → Option Value} : ∀ {l : List (Str × Value)} {y : Str} {v : Value}, Has m l → l.lookup y = some v → m y = some v
  | p :: r, y, v, ⟨h1, h2⟩, e => by
    obtain ⟨x, u⟩ := p
    rw [List.lookup_cons] at e
    by_cases q : (y == x) = true
    · rw [q] at e
      cases e
      rw [eq_of_beq q]; exact h1
    · have q' : (y == x) = false := by simpa using q
      rw [q'] at e
      exact h2.at e
theorem Has.or {m : Str → Option Value} {l : List (Str × Value)} (h : Has m l) : (fun y => (l.lookup y).or (m y)) = m := by
  funext y
  cases e : l.lookup y with
  | none => rfl
  | some v => exact (h.at e).symm
theorem fr_has {h₀ h : Heap} {L : Addr} {m : Str → Option Value} {l : List (Str × Value)} (F : Fr h₀ L h m) (H : Has m l) : Fr h₀ L h (fun y => (l.lookup y).or (m y)) := by rw [H.or]; exact F
theorem fr_hasx {h₀ h : Heap} {L : Addr} {m : Str → Option Value} {l : List (Str × Value)} {x : Str} {v : Value} (F : Fr h₀ L h (fun y => if y = x then some v else m y)) (H : Has m l) : Fr h₀ L h (fun y => if y = x then some v else (l.lookup y).or (m y)) := by
  have e := H.or
  have e2 : (fun y => if y = x then some v else (l.lookup y).or (m y)) = fun y => if y = x then some v else m y := by
    funext y
    rw [show (l.lookup y).or (m y) = m y from congrFun e y]
  rw [e2]; exact F
theorem lastIn_hit {ps : List Int} {page : Int} {i : Nat} (h : i < ps.length) (e : ps.getD ((0 : Int) + i).toNat 0 = page) : (0 : Int) + i + 1 = lastIn page (ps.take (i + 1)) := by
  have e0 : ((0 : Int) + i).toNat = i := by omega
  rw [e0] at e
  have e1 : ps[i] = page := by rw [← e]; simp [List.getD_eq_getElem?_getD, h]
  rw [take_snoc_get h, lastIn_snoc, if_pos e1, List.length_take]
  omega
theorem lastIn_miss {ps : List Int} {page : Int} {i : Nat} (h : i < ps.length) (e : ps.getD ((0 : Int) + i).toNat 0 ≠ page) : lastIn page (ps.take i) = lastIn page (ps.take (i + 1)) := by
  have e0 : ((0 : Int) + i).toNat = i := by omega
  rw [e0] at e
  have e1 : ps[i] ≠ page := fun q => e (by rw [← q]; simp [List.getD_eq_getElem?_getD, h])
  rw [take_snoc_get h, lastIn_snoc, if_neg e1]
theorem kept_nil {h h' : Heap} {led : List (Addr × Obj)} (hk : Kept (led.map (·.1)) h h') (h1 : ∀ p ∈ led, h.get? p.1 = some p.2) (h2 : ∀ p ∈ led, h'.get? p.1 = some p.2) : Kept [] h h' := fun b o e _ => by
  by_cases q : b ∈ led.map (·.1)
  · obtain ⟨p, hp, rfl⟩ := List.mem_map.mp q
    rw [h1 p hp] at e
    exact (h2 p hp).trans e
  · exact hk b o e q
theorem fresh_of {h g : Heap} {l : List Addr} {b : Addr} (k : ∀ b o, h.get? b = some o → b ∉ l → g.get? b = some o) (hg : g.get? b = none) (hb : b ∉ l) : h.get? b = none := by
  cases q : h.get? b with
  | none => rfl
  | some o => rw [k b o q hb] at hg; cases hg
theorem off_cons {d I : Addr} {o o' : Obj} {r : List (Addr × Obj)} (h : ∀ p ∈ (d, o) :: r, p.1 ≠ I) : ∀ p ∈ (d, o') :: r, p.1 ≠ I := fun p hp =>
  (List.mem_cons.mp hp).elim (fun e => by rw [e]; exact h (d, o) (.head _)) fun q => h p (.tail _ q)
end Mine
end
section
namespace Mine
theorem top_off_12 : True := by
  w_top off
  trivial
section
theorem valueAt_stored (kvs : List (Int × Value)) (k k' : Int) (v : Value) : valueAt (stored kvs k v) k' = if k' = k then some v else valueAt kvs k' := by
  unfold stored valueAt
  by_cases h : (kvs.any fun kv => kv.1 = k) = true
  · rw [if_pos h]
    induction kvs with
    | nil => cases h
    | cons p r ih =>
      obtain ⟨a, b⟩ := p
      by_cases ha : a = k
      · subst ha
        by_cases hk : k' = a
        · subst hk; simp
        · have hk' : ¬ a = k' := fun e => hk e.symm
          simp only [List.map_cons, if_true, List.find?_cons, hk', decide_false, hk, if_false]
          by_cases h2 : (r.any fun kv => kv.1 = a) = true
          · rw [ih h2, if_neg hk]
          · have e : r.map (fun kv : Int × Value => if kv.1 = a then (kv.1, v) else kv) = r := by
              rw [List.map_congr_left (g := id) ?_, List.map_id]
              intro x hx
              have : ¬ x.1 = a := fun q => h2 (List.any_eq_true.mpr ⟨x, hx, by simpa using q⟩)
              simp [this]
            rw [e]
      · have h2 : (r.any fun kv => kv.1 = k) = true := by simpa [ha] using h
        simp only [List.map_cons, if_neg ha, List.find?_cons]
        by_cases hk : a = k'
        · subst hk; simp [ha]
        · simp only [hk, decide_false]
          exact ih h2
  · rw [if_neg h, List.find?_append]
    have hn : ∀ x ∈ kvs, ¬ x.1 = k := fun x hx q => h (List.any_eq_true.mpr ⟨x, hx, by simpa using q⟩)
    by_cases hk : k' = k
    · subst hk
      have : kvs.find? (fun kv => decide (kv.1 = k')) = none := List.find?_eq_none.mpr fun x hx => by simpa using hn x hx
      simp [this]
    · have hk2 : ¬ k = k' := fun e => hk e.symm
      simp [hk, hk2]
theorem valueAt_without (kvs : List (Int × Value)) (k k' : Int) : valueAt (PySem.without kvs k) k' = if k' = k then none else valueAt kvs k' := by
  unfold PySem.without valueAt
  induction kvs with
  | nil => simp
  | cons p r ih =>
    obtain ⟨a, b⟩ := p
    by_cases ha : a = k
    · subst ha
      have e : List.filter (fun kv : Int × Value => decide (kv.1 ≠ a)) ((a, b) :: r) = List.filter (fun kv : Int × Value => decide (kv.1 ≠ a)) r := by simp
      rw [e, ih]
      by_cases hk : k' = a
      · rw [if_pos hk, if_pos hk]
      · have hk2 : ¬ a = k' := fun e => hk e.symm
        simp [hk, hk2]
    · have e : List.filter (fun kv : Int × Value => decide (kv.1 ≠ k)) ((a, b) :: r) = (a, b) :: List.filter (fun kv : Int × Value => decide (kv.1 ≠ k)) r := by simp [ha]
      rw [e]
      by_cases hk : a = k'
      · subst hk; simp [ha]
      · simp only [List.find?_cons, hk, decide_false]
        exact ih
theorem without_length (kvs : List (Int × Value)) (k : Int) : (PySem.without kvs k).length ≤ kvs.length := by
  unfold PySem.without
  exact List.length_filter_le _ _
/-- a page's places, counted from one, behind n that came before -/
def posFrom (p : Int) : Int → List Int → List Int
  | _, [] => []
  | n, x :: r => if x = p then (n + 1) :: posFrom p (n + 1) r else posFrom p (n + 1) r
def posOf (p : Int) (l : List Int) : List Int := posFrom p 0 l
theorem posFrom_snoc (p x : Int) : ∀ (l : List Int) (n : Int), posFrom p n (l ++ [x]) = posFrom p n l ++ (if x = p then [n + l.length + 1] else [])
  | [], n => by simp [posFrom]
  | y :: r, n => by
    have e : n + 1 + (r.length : Int) + 1 = n + ((y :: r).length : Nat) + 1 := by simp only [List.length_cons]; omega
    simp only [List.cons_append, posFrom, posFrom_snoc p x r (n + 1), e]
    split <;> simp
theorem posOf_snoc (p x : Int) (l : List Int) : posOf p (l ++ [x]) = posOf p l ++ (if x = p then [(l.length : Int) + 1] else []) := by
  unfold posOf
  rw [posFrom_snoc, Int.zero_add]
theorem posOf_snoc_ne {p x : Int} (l : List Int) (h : x ≠ p) : posOf p (l ++ [x]) = posOf p l := by rw [posOf_snoc, if_neg h, List.append_nil]
theorem posOf_snoc_eq {p : Int} (l : List Int) : posOf p (l ++ [p]) = posOf p l ++ [(l.length : Int) + 1] := by rw [posOf_snoc, if_pos rfl]
theorem posFrom_bound (p : Int) : ∀ (l : List Int) (n : Int), ∀ x ∈ posFrom p n l, n < x ∧ x ≤ n + l.length
  | [], _, _, h => nomatch h
  | y :: r, n, x, h => by
    unfold posFrom at h
    have key : x ∈ posFrom p (n + 1) r → n < x ∧ x ≤ n + ((y :: r).length : Nat) := fun hx => by
      have := posFrom_bound p r (n + 1) x hx
      simp only [List.length_cons]; omega
    split at h
    · rcases List.mem_cons.mp h with rfl | h
      · simp only [List.length_cons]; omega
      · exact key h
    · exact key h
theorem posFrom_sorted (p : Int) : ∀ (l : List Int) (n : Int), (posFrom p n l).Pairwise (· < ·)
  | [], _ => .nil
  | y :: r, n => by
    unfold posFrom
    split
    · refine List.pairwise_cons.mpr ⟨fun x hx => ?_, posFrom_sorted p r (n + 1)⟩
      exact (posFrom_bound p r (n + 1) x hx).1
    · exact posFrom_sorted p r (n + 1)
theorem posFrom_length (p : Int) : ∀ (l : List Int) (n : Int), (posFrom p n l).length ≤ l.length
  | [], _ => Nat.le_refl _
  | y :: r, n => by
    have := posFrom_length p r (n + 1)
    unfold posFrom
    split <;> simp only [List.length_cons] <;> omega
theorem posOf_length (p : Int) (l : List Int) : (posOf p l).length ≤ l.length := posFrom_length p l 0
/-- the last place up to a mark is the last of the places that are no greater -/
theorem lastIn_posOf (p : Int) (l : List Int) : ∀ n, n ≤ l.length → lastIn p (l.take n) = (((posOf p l).filter fun x => decide (x ≤ (n : Int))).getLast?).getD 0 := by
  have hb := posFrom_bound p l 0
  have key : ∀ n, n ≤ l.length → lastIn p (l.take n) = ((posOf p (l.take n)).getLast?).getD 0 := by
    intro n
    induction n with
    | zero => intro _; rfl
    | succ n ih =>
      intro h
      rw [take_snoc_get (by omega), lastIn_snoc, posOf_snoc]
      split
      · simp
      · rw [List.append_nil]; exact ih (by omega)
  have key2 : ∀ (l : List Int) (m : Int) (n : Nat), posFrom p m (l.take n) = (posFrom p m l).filter fun x => decide (x ≤ m + n) := by
    intro l
    induction l with
    | nil => intro m n; simp [posFrom]
    | cons y r ih =>
      intro m n
      cases n with
      | zero =>
        have e : (posFrom p m (y :: r)).filter (fun x => decide (x ≤ m + ((0 : Nat) : Int))) = [] := List.filter_eq_nil_iff.mpr fun x hx => by
          have := (posFrom_bound p (y :: r) m x hx).1
          simp; omega
        rw [e]; rfl
      | succ n =>
        have e : m + 1 + (n : Int) = m + ((n + 1 : Nat) : Int) := by omega
        simp only [List.take_succ_cons, posFrom]
        rw [ih (m + 1) n, e]
        split
        · rw [List.filter_cons, if_pos (by simp; omega)]
        · rfl
  intro n h
  rw [key n h]
  unfold posOf
  rw [key2 l 0 n, Int.zero_add]
end
end Mine
end
section
namespace Mine
open PyProof.V PySem.Spec
theorem top_off_15 : True := by
  w_top off
  trivial
section
variable {prog : Program} {w : World} {A : Around} {E : Value → Shared → Prop} {s : Shared} {h₀ : Heap} {L d : Addr} {m : Str → Option Value} {news : List (Addr × Obj)} {gg : Obj → List (Addr × Obj)} {o : Obj} {kvs : List (Int × Value)} {k : Int} {t : Tok}
theorem dset {v : Value} {Q : Unit → Shared → Prop} (F : Fr h₀ L s.heap m) (N : News h₀ L s.heap news) (U : UpdF d o news gg) (hd : o.IsDictOf (intKind prog w) kvs) (hsz : kvs.length ≤ 2000)
    (h : ∀ h' o', Fr h₀ L h' m → News h₀ L h' (gg o') → o'.IsDictOf (intKind prog w) (stored kvs k v) → Q () { s with heap := h', toks := s.toks + 1 }) :
    wpAny (model prog w) A (setItem (.ref d) (.int k t) v) Q E s := by
  obtain ⟨pre, post, rfl, hg, a, b⟩ := U.split
  have hm := N (d, o) (List.mem_append_right _ (.head _))
  refine wpAny_setItem_pairs (hsz := by rw [sizeLine_eq]; omega) (intKind_is prog w k t) (Heap.dictOf_iff.mpr ⟨o, hm.1, hd⟩) fun h' hmm hs => ?_
  obtain ⟨o', ho', hd'⟩ := Heap.dictOf_iff.mp hmm
  exact h h' o' (F.change hs hm.2.1 hm.2.2) (hg o' ▸ N.setIn a b hs ho') hd'
theorem dget {Q : Value → Shared → Prop} (N : News h₀ L s.heap news) (hm : (d, o) ∈ news) (hd : o.IsDictOf (intKind prog w) kvs) (lo : (d == sysModules) = false) {v : Option Value} (hv : valueAt kvs k = v)
    (h : Q (v.getD .none) { s with toks := s.toks + 1 }) : wpAny (model prog w) A (call (.builtin "dict.get") [.ref d, .int k t]) Q E s := by
  have hD : s.heap.DictOf (intKind prog w) d kvs := Heap.dictOf_iff.mpr ⟨o, (N _ hm).1, hd⟩
  exact call_meetsIn PySem.F.slot_dict_get hD.typeIs PySem.F.entry_dict_get (PySem.F.args_dict_get_2 _ _) (meets_dict_get _ d (intKind_is prog w k t) lo) ⟨_, hD.mapOf, hv ▸ h⟩
theorem dget_some {v : Value} {Q : Value → Shared → Prop} (N : News h₀ L s.heap news) (hm : (d, o) ∈ news) (hd : o.IsDictOf (intKind prog w) kvs) (lo : (d == sysModules) = false) (hv : valueAt kvs k = some v)
    (h : Q v { s with toks := s.toks + 1 }) : wpAny (model prog w) A (call (.builtin "dict.get") [.ref d, .int k t]) Q E s := dget N hm hd lo hv h
theorem dget_none {Q : Value → Shared → Prop} (N : News h₀ L s.heap news) (hm : (d, o) ∈ news) (hd : o.IsDictOf (intKind prog w) kvs) (lo : (d == sysModules) = false) (hv : valueAt kvs k = none)
    (h : Q .none { s with toks := s.toks + 1 }) : wpAny (model prog w) A (call (.builtin "dict.get") [.ref d, .int k t]) Q E s := dget N hm hd lo hv h
theorem dgetm {pl : Sem Bool} {Q : Value × List Value → Shared → Prop} (N : News h₀ L s.heap news) (hm : (d, o) ∈ news) (hd : o.IsDictOf (intKind prog w) kvs) (h : Q (.builtin "dict.get", [.ref d]) s) :
    wpAny (model prog w) A (getMethod (.ref d) "get" pl) Q E s := by
  have hD : s.heap.DictOf (intKind prog w) d kvs := Heap.dictOf_iff.mpr ⟨o, (N _ hm).1, hd⟩
  exact getMethod_builtin hD.typeIs PySem.F.plainAttrs_dict PySem.F.slot_dict_get PySem.F.type_dict_get hD.mapOf.noDict h
theorem dnotin {Q : Value → Shared → Prop} (N : News h₀ L s.heap news) (hm : (d, o) ∈ news) (hd : o.IsDictOf (intKind prog w) kvs) (lo : (d == sysModules) = false)
    (h : Q (.bool (!(valueAt kvs k).isSome)) { s with toks := s.toks + 1 }) : wpAny (model prog w) A (compareOp .NotIn (.int k t) (.ref d)) Q E s := by
  have hD : s.heap.DictOf (intKind prog w) d kvs := Heap.dictOf_iff.mpr ⟨o, (N _ hm).1, hd⟩
  exact wpAny_notIn_of (intKind_is prog w k t) lo hD.mapOf h
theorem dnotin_none {Q : Value → Shared → Prop} (N : News h₀ L s.heap news) (hm : (d, o) ∈ news) (hd : o.IsDictOf (intKind prog w) kvs) (lo : (d == sysModules) = false) (hv : valueAt kvs k = none)
    (h : Q (.bool true) { s with toks := s.toks + 1 }) : wpAny (model prog w) A (compareOp .NotIn (.int k t) (.ref d)) Q E s := dnotin N hm hd lo (by rw [hv]; exact h)
theorem dnotin_some {v : Value} {Q : Value → Shared → Prop} (N : News h₀ L s.heap news) (hm : (d, o) ∈ news) (hd : o.IsDictOf (intKind prog w) kvs) (lo : (d == sysModules) = false) (hv : valueAt kvs k = some v)
    (h : Q (.bool false) { s with toks := s.toks + 1 }) : wpAny (model prog w) A (compareOp .NotIn (.int k t) (.ref d)) Q E s := dnotin N hm hd lo (by rw [hv]; exact h)
theorem ditem {value slice : PySem.Expr} {v : Value} {Q : Value → Shared → Prop} (N : News h₀ L s.heap news) (hm : (d, o) ∈ news) (hd : o.IsDictOf (intKind prog w) kvs) (hv : valueAt kvs k = some v)
    (h : Q v { s with toks := s.toks + 1 })
    (hs : subscripted slice false (.ref d) (.int k t) = operate [.ref d, .int k t] (getItem (.ref d) (.int k t)) := by with_unfolding_all rfl) :
    wpAny (model prog w) A (subscriptTail value slice (.ref d) (.int k t)) Q E s := by
  have hD : s.heap.DictOf (intKind prog w) d kvs := Heap.dictOf_iff.mpr ⟨o, (N _ hm).1, hd⟩
  exact tail_any hD.typeIs slot_dict_getitem.lookup (wpAny_getItem_of (intKind_is prog w k t) hD.mapOf hv h) hs
theorem ddel {Q : Unit → Shared → Prop} (F : Fr h₀ L s.heap m) (N : News h₀ L s.heap news) (U : UpdF d o news gg) (hd : o.IsDictOf (intKind prog w) kvs) (hsz : kvs.length ≤ 2000) (hv : (valueAt kvs k).isSome = true)
    (h : ∀ h' o', Fr h₀ L h' m → News h₀ L h' (gg o') → o'.IsDictOf (intKind prog w) (PySem.without kvs k) → Q () { s with heap := h', toks := s.toks + 1 }) :
    wpAny (model prog w) A (delItem (.ref d) (.int k t)) Q E s := by
  obtain ⟨pre, post, rfl, hg, a, b⟩ := U.split
  have hm := N (d, o) (List.mem_append_right _ (.head _))
  have hD : s.heap.DictOf (intKind prog w) d kvs := Heap.dictOf_iff.mpr ⟨o, hm.1, hd⟩
  unfold delItem
  try with_reducible refine wpAny_holding ?_
  refine wpAny_bind (wpAny_sequenceKey hD.typeIs (by decide) ?_)
  refine wpAny_bind (wpAny_callSpecial?_slot (name := Str.ofString "__delitem__") hD.typeIs PySem.F.slot_dict_delitem
    (call_meetsIn PySem.F.slot_dict_delitem hD.typeIs PySem.F.entry_dict_delitem (PySem.F.args_dict_delitem_2 _ _) (meets_dict_delitem_pairs _ d (intKind_is prog w k t)) ⟨kvs, hD, (by rw [sizeLine_eq]; omega), hv, fun h' hmm hs => ?_⟩))
  obtain ⟨o', ho', hd'⟩ := Heap.dictOf_iff.mp hmm
  exact wpAny_pure (h h' o' (F.change hs hm.2.1 hm.2.2) (hg o' ▸ N.setIn a b hs ho') hd')
end
theorem flat_stored {kvs : List (Int × Value)} {D : List (PyData × PyData)} {k x : Int} {t : Tok} (hf : FlatPairs PyData.int kvs D) : FlatPairs PyData.int (stored kvs k (.int x t)) (putD (.int k) (.int x) D) := hf.stored same_int k (Flat.int x t)
theorem valueAt_same (kvs : List (Int × Value)) (k : Int) (v : Value) : valueAt (stored kvs k v) k = some v := by rw [valueAt_stored, if_pos rfl]
end Mine
end
section
namespace Mine
theorem top_off_20 : True := by
  w_top off
  trivial
theorem two_ints {vs : List Value} {a b : Int} (h : IntsAre vs [a, b]) : ∃ ta tb, vs = [.int a ta, .int b tb] := by
  cases h with
  | cons _ ta h => cases h with
    | cons _ tb h => cases h; exact ⟨ta, tb, rfl⟩
theorem fm_e (x : Int) {m : Int} (h : 0 ≤ m) : x.fmod m = x % m := Int.fmod_eq_emod_of_nonneg x h
theorem fm_47 (x : Int) : x.fmod 2147483647 = x % 2147483647 := fm_e x (by decide)
theorem fm_29 (x : Int) : x.fmod 2147483629 = x % 2147483629 := fm_e x (by decide)
theorem fd_e (x : Int) {m : Int} (h : 0 ≤ m) : x.fdiv m = x / m := Int.fdiv_eq_ediv_of_nonneg x h
section
variable {prog : Program} {w : World} {A : Around} {E : Value → Shared → Prop} {s : Shared} {h₀ : Heap} {L D : Addr} {m : Str → Option Value} {news news' : List (Addr × Obj)} {l : List Value} {n : Nat} {k : Int} {t : Tok} {v : Value}
theorem set_lit {Q : Unit → Shared → Prop}
    (F : Fr h₀ L s.heap m) (N : News h₀ L s.heap news) (U : Upd D (listOf l.toArray n) (listOf (l.set k.toNat v).toArray n) news news') (h0 : 0 ≤ k) (h1 : k < l.length) (hfit : k < 2 ^ 63)
    (h : ∀ h', Fr h₀ L h' m → News h₀ L h' news' → Q () { s with heap := h' }) :
    wpAny (model prog w) A (setItem (.ref D) (.int k t) v) Q E s := by
  obtain ⟨pre, post, rfl, rfl, a, b⟩ := U.split
  have z := N (D, listOf l.toArray n) (List.mem_append.mpr (.inr (.head _)))
  refine ki_setAt z.1 h0 hfit (by rw [List.size_toArray]; exact h1) (h _ (F.change (Heap.SameBut.update ..) z.2.1 z.2.2) (ki_turn _ N a b ?_ ?_))
  · show l.toArray.setIfInBounds k.toNat v = (l.set k.toNat v).toArray
    apply Array.toList_inj.mp
    simp
  · simp
theorem item_lit {value slice : PySem.Expr} {Q : Value → Shared → Prop} (N : News h₀ L s.heap news) (hm : (D, listOf l.toArray n) ∈ news) (h0 : 0 ≤ k) (hfit : k < 2 ^ 63) (hx : l[k.toNat]? = some v) (h : Q v s)
    (hs : subscripted slice false (.ref D) (.int k t) = operate [.ref D, .int k t] (getItem (.ref D) (.int k t)) := by with_unfolding_all rfl) :
    wpAny (model prog w) A (subscriptTail value slice (.ref D) (.int k t)) Q E s :=
  have hl : s.heap.IsList D l.toArray := PySem.IsL.isList (n := n) (N _ hm).1
  tail_any hl.typeIs slot_list_getitem.lookup (wpAny_getItem_list hl h0 hfit (by simpa using hx) h) hs
end
local macro_rules | `(tactic| tb_start) => `(tactic| ((try simp only [fm_47, fm_29]); omega))
local macro_rules | `(tactic| walk_at "setItem ref int") => `(tactic| (k_here; (with_reducible show wpAny _ _ (setItem (Value.ref _) (Value.int _ _) _) _ _ _); k_dflt (refine' set_lit ?k1 ?k2 ?k3 ?k4 ?k5 ?k6 ?_; (case k1 => k_asm); (case k2 => k_asm); (case k3 => k_upd); (case k4 => decide); (case k5 => decide); (case k6 => decide); k_whole); intro h' F' N'; (try simp only [Int.toNat_zero, Int.toNat_one, Int.reduceToNat, List.set] at N'); (try k_sweep)))
local macro_rules | `(tactic| walk_at "subscriptTail Name Constant ref int") => `(tactic| (k_here; (with_reducible show wpAny _ _ (subscriptTail _ _ (Value.ref _) (Value.int _ _)) _ _ _); k_dflt (refine' item_lit ?k1 ?k2 ?k4 ?k5 ?k6 ?_ ?k7; (case k1 => k_asm); (case k2 => k_mem); (case k4 => decide); (case k5 => decide); (case k6 => rfl); (case k7 => with_unfolding_all rfl); k_whole)))
local macro_rules | `(tactic| walk_at "binaryOp Mult int int") => `(tactic| (k_here; with_reducible refine mul_int ?_ (IntMulOk.of_left (intBits_le_64 (by tb_start) (by tb_start)))))
set_option maxHeartbeats 4000000 in
theorem take_spec {w : World} {s : Shared} {base : Heap} {loose : List Str} {mean : ExcName → Option Value} {mg mb : Str → Option Value} {Q : Value → Shared → Prop} {src : Addr} {vs : List Value} {n : Nat} {a b top : Int} {t : Tok}
    (X : (hd.heap_39 w.params).In base) (T : Top hd.view_39 loose mean mg mb base) (hk : base.StaysIn s.heap) (hled : Owned base s.heap [(src, listOf vs.toArray n)])
    (hi : IntsAre vs [a, b]) (h1 : 0 < top) (h2 : top < 1000000) (ha : 0 ≤ a) (hb : 0 ≤ b ∧ b < 2147483647)
    (hret : ∀ d td a' b' vs' n' h' tk', 0 ≤ d → d < top → 0 ≤ a' → (0 ≤ b' ∧ b' < 2147483647) → IntsAre vs' [a', b'] → h'.get? src = some (listOf vs'.toArray n') → Kept [src] s.heap h' → Q (.int d td) { s with heap := h', toks := tk' }) :
    wpAny (model Challenge.rw_pb0445_01.row.prog w) (Aro 600 6000) (call (.ref 92) [.ref src, .int top t]) Q (fun _ _ => False) s := by
  revert X
  k_fill
  intro X
  obtain ⟨ta, tb, rfl⟩ := two_ints hi
  clear hi
  refine' call_own (binds := [(Str.ofString "source", .ref src), (Str.ofString "top", .int top t)]) ?k1 ?k2 ?k3 ?k4 ?k6 ?k7 ?k8 ?k9 ?kB ?_ ?c2 ?c3 ?c4 ?c5; (case k1 => k_asm); (case k2 => k_asm); (case k3 => k_asm); (case k4 => k_asm); (case k6 => k_is); (case k7 => k_is); (case k8 => decide); (case k9 => exact BindsTo.of_eq rfl); (case c5 => decide); (case kB => exact locs rfl); (case c2 => exact rfl); (case c3 => exact rfl); (case c4 => exact rfl); (try dsimp only); intro g L' h' F' N' st' X' T' lt' kept' none'
  k_steps
  · dsimp only
    rename News _ _ _ _ => N9
    rename Fr _ _ _ _ => F9
    exact hret _ _ _ _ _ _ _ _ (fmod_lo _ h1) (fmod_hi _ h1) (by rw [fd_e _ (Int.le_of_lt h1)]; exact Int.ediv_nonneg ha (Int.le_of_lt h1)) hb (.cons _ _ (.cons _ _ .nil)) (N9 _ (.head _)).1 (kept_of F9 kept')
  · rename News _ _ _ _ => N9
    rename Fr _ _ _ _ => F9
    exact hret _ _ _ _ _ _ _ _ (fmod_lo _ h1) (fmod_hi _ h1) ha ⟨fmod_lo _ (by decide), fmod_hi _ (by decide)⟩ (.cons _ _ (.cons _ _ .nil)) (N9 _ (.head _)).1 (kept_of F9 kept')
end Mine
end
section
namespace Mine
local macro_rules | `(tactic| walk_at "pad 0") => `(tactic| fail)
local macro_rules | `(tactic| walk_at "pad 1") => `(tactic| fail)
local macro_rules | `(tactic| walk_at "pad 2") => `(tactic| fail)
theorem top_off_30 : True := by
  w_top off
  trivial
local macro_rules | `(tactic| walk_at "pyIter ref") => `(tactic| (with_reducible refine stop ?_))
set_option maxHeartbeats 4000000 in
theorem last_spec {w : World} {s : Shared} {base : Heap} {loose : List Str} {mean : ExcName → Option Value} {mg mb : Str → Option Value} {Q : Value → Shared → Prop} {lp : Addr} {vs : List Value} {n : Nat} {ps : List Int} {page mark : Int} {t u : Tok}
    (X : (hd.heap_39 w.params).In base) (T : Top hd.view_39 loose mean mg mb base) (hk : base.StaysIn s.heap) (hled : Owned base s.heap [(lp, listOf vs.toArray n)])
    (hi : IntsAre vs ps) (hlen : ps.length ≤ 1000) (h1 : 0 ≤ mark) (h2 : mark ≤ 1000)
    (hret : ∀ td h' tk', Kept [] s.heap h' → Q (.int (lastIn page (ps.take mark.toNat)) td) { s with heap := h', toks := tk' }) :
    wpAny (model Challenge.rw_pb0445_01.row.prog w) (Aro 600 6000) (call (.ref 99) [.ref lp, .int page t, .int mark u]) Q (fun _ _ => False) s := by
  revert X
  k_fill
  intro X
  refine' call_own (binds := [(Str.ofString "pages", .ref lp), (Str.ofString "page", .int page t), (Str.ofString "mark", .int mark u)]) ?k1 ?k2 ?k3 ?k4 ?k6 ?k7 ?k8 ?k9 ?kB ?_ ?c2 ?c3 ?c4 ?c5; (case k1 => k_asm); (case k2 => k_asm); (case k3 => k_asm); (case k4 => k_asm); (case k6 => k_is); (case k7 => k_is); (case k8 => decide); (case k9 => exact BindsTo.of_eq rfl); (case c5 => decide); (case kB => exact locs rfl); (case c2 => exact rfl); (case c3 => exact rfl); (case c4 => exact rfl); (try dsimp only); intro g L' h' F' N' st' X' T' lt' kept' none'
  k_steps
  unfold Stop
  rename IsRange _ _ _ _ _ _ _ _ => hR
  rename Fr _ _ _ _ => F9
  rename News _ _ _ _ => N9
  have e9 : (if (ps.length : Int) < mark then (ps.length : Int) else mark) = ((min mark.toNat ps.length : Nat) : Int) := by split <;> omega
  rw [e9] at hR
  refine range_loop (fun i m nx => nx = [(lp, listOf vs.toArray n)] ∧ ∃ td, Has m [(Str.ofString "pages", .ref lp), (Str.ofString "page", .int page t), (Str.ofString "found", .int (lastIn page (ps.take i)) td)]) rfl hR (by omega) (by omega) F9 N9 ⟨rfl, _, rfl, rfl, rfl, trivial⟩ ?_ ?_
  · rintro i t1 m₁ news₁ h1 tk1 I oI hi1 ⟨rfl, td, hm⟩ hoff hI F1 N1
    have F2 := fr_hasx F1 hm
    clear F1 F9 N9
    have hlt : i < ps.length := by omega
    k_steps
    · rename Fr _ _ _ _ => F3
      rename News _ _ _ _ => N3
      refine TurnEnd.intro F3 N3 hoff ⟨rfl, _, rfl, rfl, congrArg (fun z => some (Value.int z _)) (lastIn_hit hlt (by assumption)), trivial⟩
    · rename Fr _ _ _ _ => F3
      rename News _ _ _ _ => N3
      refine TurnEnd.intro F3 N3 hoff ⟨rfl, _, rfl, rfl, congrArg (fun z => some (Value.int z _)) (lastIn_miss hlt (by assumption)), trivial⟩
  · rintro m₁ news₁ h1 tk1 ⟨rfl, td, hm⟩ F1 N1
    have F2 := fr_has F1 hm
    clear F1 F9 N9
    have e8 : lastIn page (ps.take (((min mark.toNat ps.length : Nat) : Int) - 0).toNat) = lastIn page (ps.take mark.toNat) := by
      have e0 : (((min mark.toNat ps.length : Nat) : Int) - 0).toNat = min mark.toNat ps.length := by omega
      rw [e0, ← List.take_eq_take_min]
    rw [e8] at F2
    k_steps
    dsimp only
    rename Fr _ _ _ _ => F3
    rename News _ _ _ _ => N3
    exact hret _ _ _ (kept_nil (kept_of F3 kept') (fun p hp => (hled p hp).1) (fun p hp => (N3 p hp).1))
end Mine
end
section
namespace Mine
open PyProof.V PySem.Spec
local macro_rules | `(tactic| walk_at "pad 0") => `(tactic| fail)
local macro_rules | `(tactic| walk_at "pad 1") => `(tactic| fail)
local macro_rules | `(tactic| walk_at "pad 2") => `(tactic| fail)
theorem top_off_40 : True := by
  w_top off
  trivial
/-- the dict that newest makes: by the places a, a + 1, .. (counted from nought) -/
def newD (ps : List Int) (a : Nat) : Nat → List (PyData × PyData)
  | 0 => []
  | i + 1 => putD (.int (ps.getD (a + i) 0)) (.int ((a + i + 1 : Nat) : Int)) (newD ps a i)
theorem newD_len (ps : List Int) (a : Nat) : ∀ i, LenLe (newD ps a i) i
  | 0 => Nat.le_refl _
  | i + 1 => (newD_len ps a i).put _ _
def newestJ (w : World) (rest : List (Addr × Obj)) (ps : List Int) (a : Nat) (l : List (Str × Value)) {fd : Addr} (_ : (fd == sysModules) = false) : Nat → (Str → Option Value) → List (Addr × Obj) → Prop :=
  fun i m nx => ∃ o kvs, nx = (fd, o) :: rest ∧ o.IsDictOf (intKind Challenge.rw_pb0445_01.row.prog w) kvs ∧ FlatPairs PyData.int kvs (newD ps a i) ∧ Has m ((Str.ofString "found", .ref fd) :: l)
local macro_rules | `(tactic| walk_at "setItem ref int int") => `(tactic| (k_here; k_dflt (refine' dset ?F ?N ?U ?d ?z ?_; (case F => k_asm); (case N => k_asm); (case U => k_updF); (case d => k_asm); (case z => omega); k_whole); intro h' o' F' N' hd'; (try dsimp only at N'); (try k_sweep)))
local macro_rules | `(tactic| walk_at "pyIter ref") => `(tactic| (with_reducible refine stop ?_))
set_option maxHeartbeats 4000000 in
theorem lawnewest_spec {w : World} {s : Shared} {base : Heap} {loose : List Str} {mean : ExcName → Option Value} {mg mb : Str → Option Value} {Q : Value → Shared → Prop} {lp : Addr} {vs : List Value} {n : Nat} {ps : List Int} {above mark : Int} {t u : Tok}
    (X : (hd.heap_39 w.params).In base) (T : Top hd.view_39 loose mean mg mb base) (hk : base.StaysIn s.heap) (hled : Owned base s.heap [(lp, listOf vs.toArray n)])
    (hi : IntsAre vs ps) (hlen : ps.length ≤ 1000) (h1 : 0 ≤ above) (h2 : above ≤ mark) (h3 : mark ≤ ps.length)
    (hret : ∀ fd o kvs h' tk', h'.get? fd = some o → o.IsDictOf (intKind Challenge.rw_pb0445_01.row.prog w) kvs → FlatPairs PyData.int kvs (newD ps above.toNat (mark - above).toNat) → s.heap.get? fd = none → (fd == sysModules) = false → Kept [] s.heap h' → Q (.ref fd) { s with heap := h', toks := tk' }) :
    wpAny (model Challenge.rw_pb0445_01.row.prog w) (Aro 600 6000) (call (.ref 106) [.ref lp, .int above t, .int mark u]) Q (fun _ _ => False) s := by
  revert X
  k_fill
  intro X
  refine' call_own (binds := [(Str.ofString "pages", .ref lp), (Str.ofString "above", .int above t), (Str.ofString "mark", .int mark u)]) ?k1 ?k2 ?k3 ?k4 ?k6 ?k7 ?k8 ?k9 ?kB ?_ ?c2 ?c3 ?c4 ?c5; (case k1 => k_asm); (case k2 => k_asm); (case k3 => k_asm); (case k4 => k_asm); (case k6 => k_is); (case k7 => k_is); (case k8 => decide); (case k9 => exact BindsTo.of_eq rfl); (case c5 => decide); (case kB => exact locs rfl); (case c2 => exact rfl); (case c3 => exact rfl); (case c4 => exact rfl); (try dsimp only); intro g L' h' F' N' st' X' T' lt' kept' none'
  k_steps
  unfold Stop
  rename IsRange _ _ _ _ _ _ _ _ => hR
  rename Fr _ _ _ _ => F9
  rename News _ _ _ _ => N9
  rename (_ == sysModules) = false => lo1
  rename Obj.IsDictOf (intKind _ _) _ _ => hd1
  rename FlatPairs PyData.int _ _ => hf1
  have e9 : ((mark + 1) - (above + 1)).toNat = (mark - above).toNat := by omega
  refine range_loop (newestJ w [(lp, listOf vs.toArray n)] ps above.toNat [(Str.ofString "pages", .ref lp)] lo1) rfl hR (by omega) (by omega) F9 N9 ⟨_, _, rfl, hd1, hf1, rfl, rfl, trivial⟩ ?_ ?_
  · rintro i t1 m₁ news₁ h1 tk1 I oI hi1 ⟨o1, kvs1, rfl, hd2, hf2, hm⟩ hoff hI F1 N1
    have F2 := fr_hasx F1 hm
    clear F1 F9 N9 hd1 hf1
    have hlt : i < (mark - above).toNat := by omega
    have hle : LenLe (newD ps above.toNat i) i := newD_len ps above.toNat i
    have hz : kvs1.length ≤ 1000 := by rw [← hf2.length]; exact Nat.le_trans hle (by omega)
    have hne := neN (hoff _ (List.Mem.head _))
    dsimp only at hne
    have e7 : ps.getD (above + 1 + (i : Int) - 1).toNat 0 = ps.getD (above.toNat + i) 0 := by congr 1; omega
    have e6 : above + 1 + (i : Int) = ((above.toNat + i + 1 : Nat) : Int) := by omega
    k_steps
    rename Fr _ _ _ _ => F3
    rename News _ _ _ _ => N3
    rename Obj.IsDictOf _ _ _ => hd3
    rw [e7, e6] at hd3
    refine TurnEnd.intro F3 (fun p hp => N3 p hp) (off_cons hoff) ⟨_, _, rfl, hd3, flat_stored hf2, rfl, rfl, trivial⟩
  · rintro m₁ news₁ h1 tk1 ⟨o1, kvs1, rfl, hd2, hf2, hm⟩ F1 N1
    have F2 := fr_has F1 hm
    clear F1 F9 N9 hd1 hf1
    rw [e9] at hf2
    k_steps
    dsimp only
    rename Fr _ _ _ _ => F3
    rename News _ _ _ _ => N3
    refine hret _ _ _ _ _ (N3 _ (.head _)).1 hd2 hf2 (fresh_of kept' (N3 _ (.head _)).2.2 (fun q => absurd (List.mem_singleton.mp q) (Nat.ne_of_gt (by assumption)))) lo1 (kept_nil (kept_of F3 kept') (fun p hp => (hled p hp).1) (fun p hp => (N3 p (.tail _ hp)).1))
end Mine
end
section
namespace Mine
open PyProof.V PySem.Spec
local macro_rules | `(tactic| walk_at "pad 0") => `(tactic| fail)
local macro_rules | `(tactic| walk_at "pad 1") => `(tactic| fail)
local macro_rules | `(tactic| walk_at "pad 2") => `(tactic| fail)
local macro_rules | `(tactic| walk_at "pad 3") => `(tactic| fail)
theorem top_off_50 : True := by
  w_top off
  trivial
/-- the law's source of digits: two ints, the second one a rest -/
def Src (o : Obj) : Prop := ∃ vs n a b, o = listOf vs.toArray n ∧ IntsAre vs [a, b] ∧ 0 ≤ a ∧ (0 ≤ b ∧ b < 2147483647)
theorem take_use {w : World} {s : Shared} {h₀ : Heap} {loose : List Str} {mean : ExcName → Option Value} {mg mb : Str → Option Value} {A : Around} {L src : Addr} {m : Str → Option Value} {news : List (Addr × Obj)} {gg : Obj → List (Addr × Obj)} {so : Obj} {top : Int} {t : Tok} {Q E : Value → Shared → Prop}
    (F : Fr h₀ L s.heap m) (N : News h₀ L s.heap news) (X : (hd.heap_39 w.params).In h₀) (T : Top hd.view_39 loose mean mg mb h₀) (U : UpdF src so news gg) (hs : Src so) (h1 : 0 < top) (h2 : top < 1000000)
    (hh : A.handled = none) (hd' : A.depth ≤ 600) (hu : A.units ≤ 6000)
    (h : ∀ d td so' h' tk', 0 ≤ d → d < top → Src so' → Fr h₀ L h' m → News h₀ L h' (gg so') → Q (.int d td) { s with heap := h', toks := tk' }) :
    wpAny (model Challenge.rw_pb0445_01.row.prog w) A (call (.ref 92) [.ref src, .int top t]) Q E s := by
  obtain ⟨vs, n, a, b, rfl, hi, ha, hb⟩ := hs
  obtain ⟨pre, post, rfl, hg, hpre, hpost⟩ := U.split
  have hm := N (src, listOf vs.toArray n) (List.mem_append_right _ (.head _))
  refine aro 600 6000 (take_spec (Q := fun v s' => Q v s') X T (fun b o e => F.keep b o e) (fun p hp => by rw [List.mem_singleton.mp hp]; exact ⟨hm.1, hm.2.2⟩) hi h1 h2 ha hb ?_) hh hd' hu
  intro d td a' b' vs' n' h' tk' hd0 hdt ha' hb' hi' hg' hk
  have off : ∀ p ∈ pre ++ (src, listOf vs.toArray n) :: post, p.1 ≠ src → h'.get? p.1 = some p.2 ∧ p.1 ≠ L ∧ h₀.get? p.1 = none := fun p hp hne => ⟨hk _ _ (N p hp).1 fun q => hne (List.mem_singleton.mp q), (N p hp).2⟩
  refine h d td _ h' tk' hd0 hdt ⟨vs', n', a', b', rfl, hi', ha', hb'⟩ (fr_after F (fun x hx => by rw [List.mem_singleton.mp hx]; exact ⟨hm.2.2, hm.2.1⟩) hk) (hg _ ▸ fun p hp => ?_)
  rcases List.mem_append.mp hp with hp | hp
  · exact off p (List.mem_append_left _ hp) (hpre p hp)
  · rcases List.mem_cons.mp hp with rfl | hp
    · exact ⟨hg', hm.2⟩
    · exact off p (List.mem_append_right _ (.tail _ hp)) (hpost p hp)
local macro_rules | `(tactic| tb_start) => `(tactic| ((try simp only [fm_47, fm_29]); omega))
local macro_rules | `(tactic| walk_at "binaryOp Mult int int") => `(tactic| (k_here; with_reducible refine mul_int ?_ (IntMulOk.of_left (intBits_le_64 (by tb_start) (by tb_start)))))
local macro_rules | `(tactic| walk_at "pyIter ref") => `(tactic| (with_reducible refine stop ?_))
set_option maxHeartbeats 4000000 in
theorem pool_spec {w : World} {s : Shared} {base : Heap} {loose : List Str} {mean : ExcName → Option Value} {mg mb : Str → Option Value} {Q : Value → Shared → Prop} {l : Addr} {vs : List Value} {ns : List Int}
    (X : (hd.heap_39 w.params).In base) (T : Top hd.view_39 loose mean mg mb base) (hk : base.StaysIn s.heap) (hl : base.IsList l vs.toArray) (hi : IntsAre vs ns) (hlen : ns.length ≤ 1000)
    (hret : ∀ src so h' tk', h'.get? src = some so → Src so → s.heap.get? src = none → Kept [] s.heap h' → Q (.ref src) { s with heap := h', toks := tk' }) :
    wpAny (model Challenge.rw_pb0445_01.row.prog w) (Aro 600 6000) (call (.ref 85) [.ref l]) Q (fun _ _ => False) s := by
  revert X
  k_fill
  intro X
  have hled : Owned base s.heap [] := fun _ hp => nomatch hp
  refine' call_own (binds := [(Str.ofString "script", .ref l)]) ?k1 ?k2 ?k3 ?k4 ?k6 ?k7 ?k8 ?k9 ?kB ?_ ?c2 ?c3 ?c4 ?c5; (case k1 => k_asm); (case k2 => k_asm); (case k3 => k_asm); (case k4 => k_asm); (case k6 => k_is); (case k7 => k_is); (case k8 => decide); (case k9 => exact BindsTo.of_eq rfl); (case c5 => decide); (case kB => exact locs rfl); (case c2 => exact rfl); (case c3 => exact rfl); (case c4 => exact rfl); (try dsimp only); intro g L' h' F' N' st' X' T' lt' kept' none'
  have hl' : g.IsList l vs.toArray := hl.at fun o e => st' l o e
  k_steps
  all_goals (
    unfold Stop
    rename IsRange _ _ _ _ _ _ _ _ => hR
    rename Fr _ _ _ _ => F9
    rename News _ _ _ _ => N9
    refine range_loop (fun i m nx => nx = [] ∧ ∃ B tb M tm, 0 ≤ B ∧ (0 ≤ M ∧ M < 2147483647) ∧ Has m [(Str.ofString "script", .ref l), (Str.ofString "big", .int B tb), (Str.ofString "mixed", .int M tm)]) rfl hR (by omega) (by split <;> omega) F9 N9 ⟨rfl, _, _, _, _, ?_, ?_, rfl, rfl, rfl, trivial⟩ ?_ ?_
    · omega
    · simp only [fm_29]; omega
    · rintro i t1 m₁ news₁ h1 tk1 I oI hi1 ⟨rfl, B, tb, M, tm, hB, hM, hm⟩ hoff hI F1 N1
      have F2 := fr_hasx F1 hm
      clear F1 F9 N9
      have hlt : i < ns.length := by revert hi1; split <;> omega
      k_steps
      rename Fr _ _ _ _ => F3
      rename News _ _ _ _ => N3
      exact TurnEnd.intro F3 N3 (fun _ hp => nomatch hp) ⟨rfl, _, _, _, _, hB, ⟨fmod_lo _ (by decide), fmod_hi _ (by decide)⟩, rfl, rfl, rfl, trivial⟩
    · rintro m₁ news₁ h1 tk1 ⟨rfl, B, tb, M, tm, hB, hM, hm⟩ F1 N1
      have F2 := fr_has F1 hm
      clear F1 F9 N9
      k_steps
      all_goals (
        dsimp only
        rename Fr _ _ _ _ => F3
        rename News _ _ _ _ => N3
        refine hret _ _ _ _ (N3 _ (.head _)).1 ⟨_, _, _, _, rfl, .cons _ _ (.cons _ _ .nil), ?_, hM⟩ (fresh_of kept' (N3 _ (.head _)).2.2 (fun q => nomatch q)) (kept_of F3 kept')
        omega))
theorem pool_use {w : World} {s : Shared} {h₀ : Heap} {loose : List Str} {mean : ExcName → Option Value} {mg mb : Str → Option Value} {A : Around} {L l : Addr} {m : Str → Option Value} {news : List (Addr × Obj)} {vs : List Value} {ns : List Int} {Q E : Value → Shared → Prop}
    (F : Fr h₀ L s.heap m) (N : News h₀ L s.heap news) (X : (hd.heap_39 w.params).In h₀) (T : Top hd.view_39 loose mean mg mb h₀) (hl : h₀.IsList l vs.toArray) (hi : IntsAre vs ns) (hlen : ns.length ≤ 1000)
    (hh : A.handled = none) (hd' : A.depth ≤ 600) (hu : A.units ≤ 6000)
    (h : ∀ src so h' tk', Src so → Fr h₀ L h' m → News h₀ L h' ((src, so) :: news) → Q (.ref src) { s with heap := h', toks := tk' }) :
    wpAny (model Challenge.rw_pb0445_01.row.prog w) A (call (.ref 85) [.ref l]) Q E s := by
  refine aro 600 6000 (pool_spec (Q := fun v s' => Q v s') X T (fun b o e => F.keep b o e) hl hi hlen ?_) hh hd' hu
  intro src so h' tk' hg hs hf hk
  have hL : ∃ oL, s.heap.get? L = some oL := let ⟨oL, _, _, e, _⟩ := F.ns; ⟨oL, e⟩
  obtain ⟨oL, hL⟩ := hL
  refine h src so h' tk' hs (fr_after (l := []) F (fun _ q => nomatch q) hk) fun p hp => ?_
  rcases List.mem_cons.mp hp with rfl | hp
  · refine ⟨hg, fun e => ?_, ?_⟩
    · have e' : src = L := e
      rw [e', hL] at hf; cases hf
    · cases q : h₀.get? src with
      | none => rfl
      | some o => rw [F.keep _ _ q] at hf; cases hf
  · exact ⟨hk _ _ (N p hp).1 (fun q => nomatch q), (N p hp).2⟩
end Mine
end
section
namespace Mine
open PyProof.V PySem.Spec
theorem top_off_55 : True := by
  w_top off
  trivial
/-- an object's own dict, its ten attributes -/
abbrev ixObj (w : World) (lf dp dc sm : Addr) (last : Int) (a b c d e f g h i j x y z : Tok) : Obj := dictOf
  [⟨PyData.keyHash w.params (Str.ofString "frames"), .str (Str.ofString "frames") a, .ref lf⟩,
   ⟨PyData.keyHash w.params (Str.ofString "places"), .str (Str.ofString "places") b, .ref dp⟩,
   ⟨PyData.keyHash w.params (Str.ofString "counts"), .str (Str.ofString "counts") c, .ref dc⟩,
   ⟨PyData.keyHash w.params (Str.ofString "last"), .str (Str.ofString "last") d, .int last x⟩,
   ⟨PyData.keyHash w.params (Str.ofString "copied"), .str (Str.ofString "copied") e, .int 0 y⟩,
   ⟨PyData.keyHash w.params (Str.ofString "salts"), .str (Str.ofString "salts") f, .ref 15⟩,
   ⟨PyData.keyHash w.params (Str.ofString "number"), .str (Str.ofString "number") g, .int 0 z⟩,
   ⟨PyData.keyHash w.params (Str.ofString "sums"), .str (Str.ofString "sums") h, .ref sm⟩,
   ⟨PyData.keyHash w.params (Str.ofString "headless"), .str (Str.ofString "headless") i, .bool true⟩,
   ⟨PyData.keyHash w.params (Str.ofString "spoilt"), .str (Str.ofString "spoilt") j, .bool false⟩] 10
/-- what an index of a log holds -/
structure Ix where
  ix : Addr
  dx : Addr
  lf : Addr
  dp : Addr
  dc : Addr
  sm : Addr
  adr : Int → Addr
  fr : List Int
  kv : List (Int × Value)
  cd : List (PyData × PyData)
  last : Int
  cap : Nat
abbrev tupObj (vs : List Value) (n : Nat) : Obj := { cls := .type "tuple", data := .seq vs.toArray n }
def Ix.fixed (σ : Ix) : List Addr := [σ.ix, σ.dx, σ.lf, σ.dp, σ.dc]
structure IxLed (w : World) (σ : Ix) (R : List (Addr × Obj)) : Prop where
  hix : (σ.ix, instObj 74 σ.dx) ∈ R
  hdx : ∃ a b c d e f g h i j x y z, (σ.dx, ixObj w σ.lf σ.dp σ.dc σ.sm σ.last a b c d e f g h i j x y z) ∈ R
  hlf : ∃ vs n, (σ.lf, listOf vs.toArray n) ∈ R ∧ IntsAre vs σ.fr
  hdp : ∃ o, (σ.dp, o) ∈ R ∧ o.IsDictOf (intKind Challenge.rw_pb0445_01.row.prog w) σ.kv
  hkv : ∀ p, valueAt σ.kv p = if posOf p σ.fr = [] then none else some (.ref (σ.adr p))
  hrow : ∀ p, posOf p σ.fr ≠ [] → ∃ vs n, (σ.adr p, listOf vs.toArray n) ∈ R ∧ IntsAre vs (posOf p σ.fr)
  hdc : ∃ o kvs, (σ.dc, o) ∈ R ∧ o.IsDictOf (intKind Challenge.rw_pb0445_01.row.prog w) kvs ∧ FlatPairs PyData.int kvs σ.cd
  lo1 : (σ.dp == sysModules) = false
  lo2 : (σ.dc == sysModules) = false
  nd : σ.fixed.Nodup
  hrd : ∀ p, posOf p σ.fr ≠ [] → σ.adr p ∉ σ.fixed
  inj : ∀ p q, p ≠ q → posOf p σ.fr ≠ [] → posOf q σ.fr ≠ [] → σ.adr p ≠ σ.adr q
  hc1 : σ.kv.length ≤ σ.cap
  hc2 : σ.fr.length ≤ σ.cap
  hc3 : σ.cd.length ≤ σ.cap
  hl : 0 ≤ σ.last ∧ σ.last ≤ σ.fr.length
/-- behind a deed on the index: what it owns, and that nothing else turned -/
def Next (base h h' : Heap) (R R' : List (Addr × Obj)) : Prop := Owned base h' R' ∧ Kept (R.map (·.1)) h h' ∧ ∀ p ∈ R', p.1 ∈ R.map (·.1) ∨ h.get? p.1 = none

theorem owned_sub {base h : Heap} {R l : List (Addr × Obj)} (o : Owned base h R) (hs : ∀ p ∈ l, p ∈ R) : Owned base h l := fun p hp => o p (hs p hp)
theorem owned_nil {base h : Heap} : Owned base h [] := fun _ hp => nomatch hp
theorem owned_cons {base h : Heap} {R l : List (Addr × Obj)} {p : Addr × Obj} (o : Owned base h R) (hp : p ∈ R) (ol : Owned base h l) : Owned base h (p :: l) := fun q hq => (List.mem_cons.mp hq).elim (fun e => e ▸ o p hp) (ol q)
/-- two objects of an owned ledger at one place are one -/
theorem owned_one {base h : Heap} {R : List (Addr × Obj)} (O : Owned base h R) {a : Addr} {o o' : Obj} (h1 : (a, o) ∈ R) (h2 : (a, o') ∈ R) : o = o' := Option.some.inj ((O _ h1).1.symm.trans (O _ h2).1)

theorem ints_snoc {vs : List Value} {ns : List Int} (h : IntsAre vs ns) (x : Int) (t : Tok) : IntsAre (vs ++ [.int x t]) (ns ++ [x]) := by
  induction h with
  | nil => exact .cons x t .nil
  | cons i u _ ih => exact .cons i u ih
/-- the ledger behind a deed: what the call held, and what it did not look at -/
def mix (led' : List (Addr × Obj)) (A : List Addr) (R : List (Addr × Obj)) : List (Addr × Obj) := led' ++ R.filter fun p => decide (p.1 ∉ A)
theorem mix_l {led' R : List (Addr × Obj)} {A : List Addr} {p : Addr × Obj} (h : p ∈ led') : p ∈ mix led' A R := List.mem_append_left _ h
theorem mix_r {led' R : List (Addr × Obj)} {A : List Addr} {p : Addr × Obj} (h : p ∈ R) (hn : p.1 ∉ A) : p ∈ mix led' A R := List.mem_append_right _ (List.mem_filter.mpr ⟨h, decide_eq_true hn⟩)
theorem next_of {base g h h' : Heap} {L' : Addr} {m : Str → Option Value} {led' R : List (Addr × Obj)} {A : List Addr} (O : Owned base h R) (F : Fr g L' h' m) (N : News g L' h' led') (st : base.StaysIn g)
    (k : ∀ b o, h.get? b = some o → b ∉ A → g.get? b = some o) (hA : ∀ a ∈ A, a ∈ R.map (·.1)) : Next base h h' R (mix led' A R) := by
  refine ⟨fun p hp => ?_, fun b o e n => F.keep b o (k b o e fun q => n (hA b q)), fun p hp => ?_⟩
  · rcases List.mem_append.mp hp with hp | hp
    · refine ⟨(N p hp).1, ?_⟩
      cases q : base.get? p.1 with
      | none => rfl
      | some o => have := st _ _ q; rw [(N p hp).2.2] at this; cases this
    · obtain ⟨hr, hn⟩ := List.mem_filter.mp hp
      exact ⟨F.keep _ _ (k _ _ (O p hr).1 (of_decide_eq_true hn)), (O p hr).2⟩
  · rcases List.mem_append.mp hp with hp | hp
    · by_cases hm : p.1 ∈ A
      · exact .inl (hA _ hm)
      · exact .inr (fresh_of k (N p hp).2.2 hm)
    · exact .inl (List.mem_map_of_mem (List.mem_filter.mp hp).1)
theorem dict_cls {w : World} {o : Obj} {kvs : List (Int × Value)} (h : o.IsDictOf (intKind Challenge.rw_pb0445_01.row.prog w) kvs) : o.cls = .type "dict" := let ⟨_, _, e, _⟩ := h; e.1
theorem type_ne {a b : String} (h : a ≠ b) : Value.type a ≠ Value.type b := fun q => h (by injection q)
theorem add_new {w : World} {s : Shared} {base g h' : Heap} {Q : Value → Shared → Prop} {σ : Ix} {R : List (Addr × Obj)} {page : Int} {t t2 : Tok} {r L' : Addr} {m : Str → Option Value} {o' dxo : Obj} {vs : List Value} {n n2 tk : Nat}
    (O : Owned base s.heap R) (I : IxLed w σ R) (hcap : σ.cap ≤ 500) (hp : posOf page σ.fr = []) (l9 : σ.ix < r ∧ σ.dx < r ∧ σ.lf < r ∧ σ.dp < r)
    (hd9 : o'.IsDictOf (intKind Challenge.rw_pb0445_01.row.prog w) (stored σ.kv page (.ref r))) (hfr : IntsAre vs σ.fr)
    (hdx : ∃ a b c d e f g h i j x y z, dxo = ixObj w σ.lf σ.dp σ.dc σ.sm σ.last a b c d e f g h i j x y z)
    (F9 : Fr g L' h' m) (N9 : News g L' h' [(r, listOf (#[].push (.int ((σ.fr.length + 1 : Nat) : Int) t2)) n2), (σ.ix, instObj 74 σ.dx), (σ.dx, dxo), (σ.lf, listOf (vs ++ [Value.int page t]).toArray (n + 1)), (σ.dp, o')])
    (st : base.StaysIn g) (k : ∀ b o, s.heap.get? b = some o → b ∉ [σ.ix, σ.dx, σ.lf, σ.dp] → g.get? b = some o)
    (hret : ∀ adr' kv' R' h' tk', IxLed w { σ with fr := σ.fr ++ [page], adr := adr', kv := kv', cap := σ.cap + 1 } R' → Next base s.heap h' R R' → Q .none { s with heap := h', toks := tk' }) :
    Q .none { s with heap := h', toks := tk } := by
  have nd := I.nd
  have hoff : ∀ a, a ∉ σ.fixed → a ∉ [σ.ix, σ.dx, σ.lf, σ.dp] := fun a ha q => ha (by
    simp only [Ix.fixed, List.mem_cons, List.not_mem_nil, or_false] at q ⊢
    rcases q with q | q | q | q
    · exact .inl q
    · exact .inr (.inl q)
    · exact .inr (.inr (.inl q))
    · exact .inr (.inr (.inr (.inl q))))
  have hdcn : σ.dc ∉ [σ.ix, σ.dx, σ.lf, σ.dp] := by
    simp only [Ix.fixed, List.nodup_cons, List.mem_cons, List.not_mem_nil, or_false, not_or] at nd
    obtain ⟨⟨n1, n2, n3, n4⟩, ⟨n5, n6, n7⟩, ⟨n8, n9⟩, n10, _⟩ := nd
    simp only [List.mem_cons, List.not_mem_nil, or_false, not_or]
    exact ⟨fun e => n4 e.symm, fun e => n7 e.symm, fun e => n9 e.symm, fun e => n10 e.symm⟩
  have hr0 : g.get? r = none := (N9 _ (.head _)).2.2
  obtain ⟨vsl, nl, hlf, _⟩ := I.hlf
  obtain ⟨_, _, _, _, _, _, _, _, _, _, _, _, _, hdx0⟩ := I.hdx
  obtain ⟨od, hdp, _⟩ := I.hdp
  obtain ⟨oc, kc, hdc, hdc2, hdc3⟩ := I.hdc
  have rne : ∀ a o, (a, o) ∈ R → a ∉ [σ.ix, σ.dx, σ.lf, σ.dp] → r ≠ a := fun a o ho hn e => by
    have := k _ _ (O _ ho).1 hn
    rw [← e, hr0] at this; cases this
  have hnew : ∀ p, p ≠ page → posOf p (σ.fr ++ [page]) = posOf p σ.fr := fun p h => posOf_snoc_ne _ fun e => h e.symm
  have hpg : posOf page (σ.fr ++ [page]) = [((σ.fr.length + 1 : Nat) : Int)] := by rw [posOf_snoc_eq, hp]; simp
  refine hret (fun p => if p = page then r else σ.adr p) (stored σ.kv page (.ref r)) (mix _ [σ.ix, σ.dx, σ.lf, σ.dp] R) h' tk ?_ (next_of O F9 N9 st k ?_)
  · refine ⟨mix_l (by k_mem), ?_, ?_, ⟨o', mix_l (by k_mem), hd9⟩, ?_, ?_, ⟨oc, kc, mix_r hdc hdcn, hdc2, hdc3⟩, I.lo1, I.lo2, I.nd, ?_, ?_, ?_, ?_, ?_, ?_⟩
    · obtain ⟨a, b, c, d, e, f, g, h, i, j, x, y, z, rfl⟩ := hdx
      exact ⟨a, b, c, d, e, f, g, h, i, j, x, y, z, mix_l (by k_mem)⟩
    · exact ⟨vs ++ [.int page t], n + 1, mix_l (by k_mem), ints_snoc hfr _ _⟩
    · intro p
      show valueAt (stored σ.kv page (.ref r)) p = if posOf p (σ.fr ++ [page]) = [] then none else some (.ref (if p = page then r else σ.adr p))
      rw [valueAt_stored]
      by_cases h : p = page
      · subst h; rw [if_pos rfl, hpg, if_neg (by simp), if_pos rfl]
      · rw [if_neg h, hnew p h, if_neg h]; exact I.hkv p
    · intro p hpne
      have hpne' : posOf p (σ.fr ++ [page]) ≠ [] := hpne
      show ∃ vs n, ((if p = page then r else σ.adr p), listOf vs.toArray n) ∈ _ ∧ IntsAre vs (posOf p (σ.fr ++ [page]))
      by_cases h : p = page
      · subst h
        rw [if_pos rfl, hpg]
        exact ⟨[.int _ t2], n2, mix_l (by k_mem), .cons _ _ .nil⟩
      · rw [hnew p h] at hpne' ⊢
        rw [if_neg h]
        obtain ⟨v1, n1, hm, hi⟩ := I.hrow p hpne'
        exact ⟨v1, n1, mix_r hm (hoff _ (I.hrd p hpne')), hi⟩
    · intro p hpne
      have hpne' : posOf p (σ.fr ++ [page]) ≠ [] := hpne
      show (if p = page then r else σ.adr p) ∉ σ.fixed
      by_cases h : p = page
      · rw [if_pos h]
        simp only [Ix.fixed, List.mem_cons, List.not_mem_nil, or_false, not_or]
        exact ⟨Nat.ne_of_gt l9.1, Nat.ne_of_gt l9.2.1, Nat.ne_of_gt l9.2.2.1, Nat.ne_of_gt l9.2.2.2, rne _ _ hdc hdcn⟩
      · rw [if_neg h]; rw [hnew p h] at hpne'; exact I.hrd p hpne'
    · intro p q hpq hp1 hq1
      have hp2 : posOf p (σ.fr ++ [page]) ≠ [] := hp1
      have hq2 : posOf q (σ.fr ++ [page]) ≠ [] := hq1
      show (if p = page then r else σ.adr p) ≠ (if q = page then r else σ.adr q)
      by_cases h : p = page
      · have h2 : q ≠ page := fun e => hpq (h.trans e.symm)
        rw [if_pos h, if_neg h2]
        rw [hnew q h2] at hq2
        obtain ⟨v1, n1, hm, _⟩ := I.hrow q hq2
        exact rne _ _ hm (hoff _ (I.hrd q hq2))
      · rw [if_neg h]
        rw [hnew p h] at hp2
        by_cases h2 : q = page
        · rw [if_pos h2]
          obtain ⟨v1, n1, hm, _⟩ := I.hrow p hp2
          exact (rne _ _ hm (hoff _ (I.hrd p hp2))).symm
        · rw [if_neg h2]; rw [hnew q h2] at hq2; exact I.inj p q hpq hp2 hq2
    · show (stored σ.kv page (.ref r)).length ≤ σ.cap + 1
      have := stored_length_le σ.kv page (.ref r)
      have := I.hc1
      omega
    · show (σ.fr ++ [page]).length ≤ σ.cap + 1
      have := I.hc2
      simp only [List.length_append, List.length_cons, List.length_nil]; omega
    · exact Nat.le_trans I.hc3 (Nat.le_succ _)
    · show 0 ≤ σ.last ∧ σ.last ≤ ((σ.fr ++ [page]).length : Int)
      have := I.hl
      simp only [List.length_append, List.length_cons, List.length_nil]; omega
  · intro a ha
    simp only [List.mem_cons, List.not_mem_nil, or_false] at ha
    rcases ha with rfl | rfl | rfl | rfl
    · exact List.mem_map_of_mem (f := (·.1)) I.hix
    · exact List.mem_map_of_mem (f := (·.1)) hdx0
    · exact List.mem_map_of_mem (f := (·.1)) hlf
    · exact List.mem_map_of_mem (f := (·.1)) hdp
theorem add_old {w : World} {s : Shared} {base g h' : Heap} {Q : Value → Shared → Prop} {σ : Ix} {R : List (Addr × Obj)} {page : Int} {t t2 : Tok} {L' : Addr} {m : Str → Option Value} {od dxo : Obj} {vs rvs : List Value} {n n2 tk : Nat}
    (O : Owned base s.heap R) (I : IxLed w σ R) (hcap : σ.cap ≤ 500) (hp : posOf page σ.fr ≠ [])
    (hdd : od.IsDictOf (intKind Challenge.rw_pb0445_01.row.prog w) σ.kv) (hfr : IntsAre vs σ.fr) (hri : IntsAre rvs (posOf page σ.fr))
    (hdx : ∃ a b c d e f g h i j x y z, dxo = ixObj w σ.lf σ.dp σ.dc σ.sm σ.last a b c d e f g h i j x y z)
    (F9 : Fr g L' h' m) (N9 : News g L' h' [(σ.ix, instObj 74 σ.dx), (σ.dx, dxo), (σ.lf, listOf (vs ++ [Value.int page t]).toArray (n + 1)), (σ.dp, od), (σ.adr page, listOf (rvs ++ [Value.int ((σ.fr.length + 1 : Nat) : Int) t2]).toArray n2)])
    (st : base.StaysIn g) (k : ∀ b o, s.heap.get? b = some o → b ∉ [σ.ix, σ.dx, σ.lf, σ.dp, σ.adr page] → g.get? b = some o)
    (hret : ∀ adr' kv' R' h' tk', IxLed w { σ with fr := σ.fr ++ [page], adr := adr', kv := kv', cap := σ.cap + 1 } R' → Next base s.heap h' R R' → Q .none { s with heap := h', toks := tk' }) :
    Q .none { s with heap := h', toks := tk } := by
  have nd := I.nd
  have hra := I.hrd page hp
  have hoff : ∀ a, a ∉ σ.fixed → a ≠ σ.adr page → a ∉ [σ.ix, σ.dx, σ.lf, σ.dp, σ.adr page] := fun a ha hb q => ha (by
    simp only [Ix.fixed, List.mem_cons, List.not_mem_nil, or_false] at q ⊢
    rcases q with q | q | q | q | q
    · exact .inl q
    · exact .inr (.inl q)
    · exact .inr (.inr (.inl q))
    · exact .inr (.inr (.inr (.inl q)))
    · exact absurd q hb)
  have hdcn : σ.dc ∉ [σ.ix, σ.dx, σ.lf, σ.dp, σ.adr page] := by
    simp only [Ix.fixed, List.nodup_cons, List.mem_cons, List.not_mem_nil, or_false, not_or] at nd hra
    obtain ⟨⟨n1, n2, n3, n4⟩, ⟨n5, n6, n7⟩, ⟨n8, n9⟩, n10, _⟩ := nd
    simp only [List.mem_cons, List.not_mem_nil, or_false, not_or]
    exact ⟨fun e => n4 e.symm, fun e => n7 e.symm, fun e => n9 e.symm, fun e => n10 e.symm, fun e => hra.2.2.2.2 e.symm⟩
  obtain ⟨vsl, nl, hlf, _⟩ := I.hlf
  obtain ⟨_, _, _, _, _, _, _, _, _, _, _, _, _, hdx0⟩ := I.hdx
  obtain ⟨od0, hdp, _⟩ := I.hdp
  obtain ⟨oc, kc, hdc, hdc2, hdc3⟩ := I.hdc
  obtain ⟨rv0, rn0, hrow0, _⟩ := I.hrow page hp
  have hnew : ∀ p, p ≠ page → posOf p (σ.fr ++ [page]) = posOf p σ.fr := fun p h => posOf_snoc_ne _ fun e => h e.symm
  have hpg : posOf page (σ.fr ++ [page]) = posOf page σ.fr ++ [((σ.fr.length + 1 : Nat) : Int)] := by rw [posOf_snoc_eq]; simp
  have hold : ∀ p, posOf p (σ.fr ++ [page]) ≠ [] → posOf p σ.fr ≠ [] := fun p h => by
    by_cases e : p = page
    · exact e ▸ hp
    · rwa [hnew p e] at h
  refine hret σ.adr σ.kv (mix _ [σ.ix, σ.dx, σ.lf, σ.dp, σ.adr page] R) h' tk ?_ (next_of O F9 N9 st k ?_)
  · refine ⟨mix_l (by k_mem), ?_, ?_, ⟨od, mix_l (by k_mem), hdd⟩, ?_, ?_, ⟨oc, kc, mix_r hdc hdcn, hdc2, hdc3⟩, I.lo1, I.lo2, I.nd, ?_, ?_, ?_, ?_, ?_, ?_⟩
    · obtain ⟨a, b, c, d, e, f, g, h, i, j, x, y, z, rfl⟩ := hdx
      exact ⟨a, b, c, d, e, f, g, h, i, j, x, y, z, mix_l (by k_mem)⟩
    · exact ⟨vs ++ [.int page t], n + 1, mix_l (by k_mem), ints_snoc hfr _ _⟩
    · intro p
      show valueAt σ.kv p = if posOf p (σ.fr ++ [page]) = [] then none else some (.ref (σ.adr p))
      rw [I.hkv p]
      by_cases h : p = page
      · subst h; rw [hpg, if_neg hp, if_neg (by simp)]
      · rw [hnew p h]
    · intro p hpne
      have hpne' := hold p hpne
      show ∃ vs n, (σ.adr p, listOf vs.toArray n) ∈ _ ∧ IntsAre vs (posOf p (σ.fr ++ [page]))
      by_cases h : p = page
      · subst h
        rw [hpg]
        exact ⟨_, n2, mix_l (by k_mem), ints_snoc hri _ t2⟩
      · rw [hnew p h]
        obtain ⟨v1, n1, hm, hi⟩ := I.hrow p hpne'
        exact ⟨v1, n1, mix_r hm (hoff _ (I.hrd p hpne') (I.inj p page h hpne' hp)), hi⟩
    · exact fun p h => I.hrd p (hold p h)
    · exact fun p q h1 h2 h3 => I.inj p q h1 (hold p h2) (hold q h3)
    · exact Nat.le_trans I.hc1 (Nat.le_succ _)
    · show (σ.fr ++ [page]).length ≤ σ.cap + 1
      have := I.hc2
      simp only [List.length_append, List.length_cons, List.length_nil]; omega
    · exact Nat.le_trans I.hc3 (Nat.le_succ _)
    · show 0 ≤ σ.last ∧ σ.last ≤ ((σ.fr ++ [page]).length : Int)
      have := I.hl
      simp only [List.length_append, List.length_cons, List.length_nil]; omega
  · intro a ha
    simp only [List.mem_cons, List.not_mem_nil, or_false] at ha
    rcases ha with rfl | rfl | rfl | rfl | rfl
    · exact List.mem_map_of_mem (f := (·.1)) I.hix
    · exact List.mem_map_of_mem (f := (·.1)) hdx0
    · exact List.mem_map_of_mem (f := (·.1)) hlf
    · exact List.mem_map_of_mem (f := (·.1)) hdp
    · exact List.mem_map_of_mem (f := (·.1)) hrow0
local macro_rules | `(tactic| walk_at "setItem ref int") => `(tactic| (k_here; k_dflt (refine' dset ?F ?N ?U ?d ?z ?_; (case F => k_asm); (case N => k_asm); (case U => k_updF); (case d => k_asm); (case z => omega); k_whole); intro h' o' F' N' hd'; (try dsimp only at N'); (try k_sweep)))
local macro_rules | `(tactic| walk_at "setItem ref int int") => `(tactic| (k_here; k_dflt (refine' dset ?F ?N ?U ?d ?z ?_; (case F => k_asm); (case N => k_asm); (case U => k_updF); (case d => k_asm); (case z => omega); k_whole); intro h' o' F' N' hd'; (try dsimp only at N'); (try k_sweep)))
local macro_rules | `(tactic| walk_at "compareOp NotIn int ref") => `(tactic| (k_here; k_dflt (first
  | (refine' dnotin_none ?N ?m ?d ?l ?v ?_; (case N => k_asm); (case m => k_mem); (case d => k_asm); (case l => k_asm); (case v => k_asm); k_whole)
  | (refine' dnotin_some ?N ?m ?d ?l ?v ?_; (case N => k_asm); (case m => k_mem); (case d => k_asm); (case l => k_asm); (case v => k_asm); k_whole))))
local macro_rules | `(tactic| walk_at "subscriptTail") => `(tactic| (k_here; (with_reducible show wpAny _ _ (subscriptTail _ _ (Value.ref _) (Value.int _ _)) _ _ _); k_dflt (refine' ditem ?N ?m ?d ?v ?_ ?hs; (case N => k_asm); (case m => k_mem); (case d => k_asm); (case v => first | k_asm | exact valueAt_same _ _ _); (case hs => with_unfolding_all rfl); k_whole)))
local macro_rules | `(tactic| walk_at "getMethod ref") => `(tactic| (k_here; k_dflt (refine' dgetm ?N ?m ?d ?_; (case N => k_asm); (case m => k_mem); (case d => k_asm); k_whole)))
local macro_rules | `(tactic| walk_at "call builtin:dict.get") => `(tactic| (k_here; k_dflt (first
  | (refine' dget_some ?N ?m ?d ?l ?v ?_; (case N => k_asm); (case m => k_mem); (case d => k_asm); (case l => k_asm); (case v => k_asm); k_whole)
  | (refine' dget_none ?N ?m ?d ?l ?v ?_; (case N => k_asm); (case m => k_mem); (case d => k_asm); (case l => k_asm); (case v => k_asm); k_whole))))
local macro_rules | `(tactic| walk_at "delItem ref int") => `(tactic| (k_here; k_dflt (refine' ddel ?F ?N ?U ?d ?z ?v ?_; (case F => k_asm); (case N => k_asm); (case U => k_updF); (case d => k_asm); (case z => omega); (case v => k_asm); k_whole); intro h' o' F' N' hd'; (try dsimp only at N'); (try k_sweep)))
set_option maxHeartbeats 4000000 in
theorem add_spec {w : World} {s : Shared} {base : Heap} {loose : List Str} {mean : ExcName → Option Value} {mg mb : Str → Option Value} {Q : Value → Shared → Prop} {σ : Ix} {R : List (Addr × Obj)} {page : Int} {t : Tok}
    (X : (hd.heap_39 w.params).In base) (T : Top hd.view_39 loose mean mg mb base) (hk : base.StaysIn s.heap) (O : Owned base s.heap R) (I : IxLed w σ R) (hcap : σ.cap ≤ 500)
    (hret : ∀ adr' kv' R' h' tk', IxLed w { σ with fr := σ.fr ++ [page], adr := adr', kv := kv', cap := σ.cap + 1 } R' → Next base s.heap h' R R' → Q .none { s with heap := h', toks := tk' }) :
    wpAny (model Challenge.rw_pb0445_01.row.prog w) (Aro 600 6000) (call (.ref 43) [.ref σ.ix, .int page t]) Q (fun _ _ => False) s := by
  revert X
  k_fill
  intro X
  obtain ⟨a, b, c, d, e, f, g0, h0, i, j, x, y, z, hdx⟩ := I.hdx
  obtain ⟨vs, n, hlf, hfr⟩ := I.hlf
  obtain ⟨od, hdp, hdd⟩ := I.hdp
  have nd := I.nd
  simp only [Ix.fixed, List.nodup_cons, List.mem_cons, List.not_mem_nil, or_false, not_or] at nd
  obtain ⟨⟨n1, n2, n3, n4⟩, ⟨n5, n6, n7⟩, ⟨n8, n9⟩, n10, _⟩ := nd
  replace n1 := neN n1; replace n2 := neN n2; replace n3 := neN n3; replace n5 := neN n5; replace n6 := neN n6; replace n8 := neN n8
  have lo := I.lo1
  have hc1 := I.hc1
  have hc2 := I.hc2
  have hl9 := hfr.length
  by_cases hp : posOf page σ.fr = []
  · have hv : valueAt σ.kv page = none := by rw [I.hkv, if_pos hp]
    have hled := owned_cons O I.hix (owned_cons O hdx (owned_cons O hlf (owned_cons O hdp owned_nil)))
    refine' call_own (binds := [(Str.ofString "self", .ref σ.ix), (Str.ofString "page", .int page t)]) ?k1 ?k2 ?k3 ?k4 ?k6 ?k7 ?k8 ?k9 ?kB ?_ ?c2 ?c3 ?c4 ?c5; (case k1 => k_asm); (case k2 => k_asm); (case k3 => k_asm); (case k4 => k_asm); (case k6 => k_is); (case k7 => k_is); (case k8 => decide); (case k9 => exact BindsTo.of_eq rfl); (case c5 => decide); (case kB => exact locs rfl); (case c2 => exact rfl); (case c3 => exact rfl); (case c4 => exact rfl); (try dsimp only); intro g L' h' F' N' st' X' T' lt' kept' none'
    k_steps
    rename News _ _ _ _ => N9
    rename Fr _ _ _ _ => F9
    rename Obj.IsDictOf _ _ (stored _ _ _) => hd9
    rename σ.ix < _ ∧ _ => l9
    exact add_new (s := s) O I hcap hp l9 hd9 hfr ⟨_, _, _, _, _, _, _, _, _, _, _, _, _, rfl⟩ F9 N9 st' kept' hret
  · have hv : valueAt σ.kv page = some (.ref (σ.adr page)) := by rw [I.hkv, if_neg hp]
    obtain ⟨rvs, rn, hra, hri⟩ := I.hrow page hp
    have hrd := I.hrd page hp
    simp only [Ix.fixed, List.mem_cons, List.not_mem_nil, or_false, not_or] at hrd
    obtain ⟨r1, r2, r3, r4, r5⟩ := hrd
    replace r1 := neN r1; replace r2 := neN r2; replace r3 := neN r3; replace r4 := neN r4
    have hrl := hri.length
    have hrb := posOf_length page σ.fr
    have hled := owned_cons O I.hix (owned_cons O hdx (owned_cons O hlf (owned_cons O hdp (owned_cons O hra owned_nil))))
    refine' call_own (binds := [(Str.ofString "self", .ref σ.ix), (Str.ofString "page", .int page t)]) ?k1 ?k2 ?k3 ?k4 ?k6 ?k7 ?k8 ?k9 ?kB ?_ ?c2 ?c3 ?c4 ?c5; (case k1 => k_asm); (case k2 => k_asm); (case k3 => k_asm); (case k4 => k_asm); (case k6 => k_is); (case k7 => k_is); (case k8 => decide); (case k9 => exact BindsTo.of_eq rfl); (case c5 => decide); (case kB => exact locs rfl); (case c2 => exact rfl); (case c3 => exact rfl); (case c4 => exact rfl); (try dsimp only); intro g L' h' F' N' st' X' T' lt' kept' none'
    k_steps
    rename News _ _ _ _ => N9
    rename Fr _ _ _ _ => F9
    simp only [List.push_toArray] at N9
    exact add_old (s := s) O I hcap hp hdd hfr hri ⟨_, _, _, _, _, _, _, _, _, _, _, _, _, rfl⟩ F9 N9 st' kept' hret
end Mine
end
section
namespace Mine
open PyProof.V PySem.Spec
local macro_rules | `(tactic| walk_at "pad 0") => `(tactic| fail)
theorem top_off_56 : True := by
  w_top off
  trivial
local macro_rules | `(tactic| walk_at "setItem ref int") => `(tactic| (k_here; k_dflt (refine' dset ?F ?N ?U ?d ?z ?_; (case F => k_asm); (case N => k_asm); (case U => k_updF); (case d => k_asm); (case z => omega); k_whole); intro h' o' F' N' hd'; (try dsimp only at N'); (try k_sweep)))
local macro_rules | `(tactic| walk_at "setItem ref int int") => `(tactic| (k_here; k_dflt (refine' dset ?F ?N ?U ?d ?z ?_; (case F => k_asm); (case N => k_asm); (case U => k_updF); (case d => k_asm); (case z => omega); k_whole); intro h' o' F' N' hd'; (try dsimp only at N'); (try k_sweep)))
local macro_rules | `(tactic| walk_at "compareOp NotIn int ref") => `(tactic| (k_here; k_dflt (first
  | (refine' dnotin_none ?N ?m ?d ?l ?v ?_; (case N => k_asm); (case m => k_mem); (case d => k_asm); (case l => k_asm); (case v => k_asm); k_whole)
  | (refine' dnotin_some ?N ?m ?d ?l ?v ?_; (case N => k_asm); (case m => k_mem); (case d => k_asm); (case l => k_asm); (case v => k_asm); k_whole))))
local macro_rules | `(tactic| walk_at "subscriptTail") => `(tactic| (k_here; (with_reducible show wpAny _ _ (subscriptTail _ _ (Value.ref _) (Value.int _ _)) _ _ _); k_dflt (refine' ditem ?N ?m ?d ?v ?_ ?hs; (case N => k_asm); (case m => k_mem); (case d => k_asm); (case v => first | k_asm | exact valueAt_same _ _ _); (case hs => with_unfolding_all rfl); k_whole)))
local macro_rules | `(tactic| walk_at "getMethod ref") => `(tactic| (k_here; k_dflt (refine' dgetm ?N ?m ?d ?_; (case N => k_asm); (case m => k_mem); (case d => k_asm); k_whole)))
local macro_rules | `(tactic| walk_at "call builtin:dict.get") => `(tactic| (k_here; k_dflt (first
  | (refine' dget_some ?N ?m ?d ?l ?v ?_; (case N => k_asm); (case m => k_mem); (case d => k_asm); (case l => k_asm); (case v => k_asm); k_whole)
  | (refine' dget_none ?N ?m ?d ?l ?v ?_; (case N => k_asm); (case m => k_mem); (case d => k_asm); (case l => k_asm); (case v => k_asm); k_whole))))
local macro_rules | `(tactic| walk_at "delItem ref int") => `(tactic| (k_here; k_dflt (refine' ddel ?F ?N ?U ?d ?z ?v ?_; (case F => k_asm); (case N => k_asm); (case U => k_updF); (case d => k_asm); (case z => omega); (case v => k_asm); k_whole); intro h' o' F' N' hd'; (try dsimp only at N'); (try k_sweep)))
set_option maxHeartbeats 4000000 in
theorem note_spec {w : World} {s : Shared} {base : Heap} {loose : List Str} {mean : ExcName → Option Value} {mg mb : Str → Option Value} {Q : Value → Shared → Prop} {σ : Ix} {R : List (Addr × Obj)} {many : Int} {t : Tok} {ts : Addr}
    (X : (hd.heap_39 w.params).In base) (T : Top hd.view_39 loose mean mg mb base) (hk : base.StaysIn s.heap) (O : Owned base s.heap R) (I : IxLed w σ R) (hcap : σ.cap ≤ 500)
    (hret : ∀ R' h' tk', IxLed w { σ with last := σ.fr.length, cd := putD (.int (σ.fr.length : Int)) (.int many) σ.cd, sm := ts, cap := σ.cap + 1 } R' → Next base s.heap h' R R' → Q .none { s with heap := h', toks := tk' }) :
    wpAny (model Challenge.rw_pb0445_01.row.prog w) (Aro 600 6000) (call (.ref 50) [.ref σ.ix, .int many t, .ref ts]) Q (fun _ _ => False) s := by
  revert X
  k_fill
  intro X
  obtain ⟨a, b, c, d, e, f, g0, h0, i, j, x, y, z, hdx⟩ := I.hdx
  obtain ⟨vs, n, hlf, hfr⟩ := I.hlf
  obtain ⟨oc, kc, hdc, hcc, hcf⟩ := I.hdc
  have nd := I.nd
  simp only [Ix.fixed, List.nodup_cons, List.mem_cons, List.not_mem_nil, or_false, not_or] at nd
  obtain ⟨⟨n1, n2, n3, n4⟩, ⟨n5, n6, n7⟩, ⟨n8, n9⟩, n10, _⟩ := nd
  replace n1 := neN n1; replace n2 := neN n2; replace n4 := neN n4; replace n5 := neN n5; replace n7 := neN n7; replace n9 := neN n9
  have lo := I.lo2
  have hc2 := I.hc2
  have hc3 := I.hc3
  have hz : kc.length ≤ 500 := by rw [← hcf.length]; omega
  have hl9 := hfr.length
  have hled := owned_cons O I.hix (owned_cons O hdx (owned_cons O hlf (owned_cons O hdc owned_nil)))
  refine' call_own (binds := [(Str.ofString "self", .ref σ.ix), (Str.ofString "page_count", .int many t), (Str.ofString "sums", .ref ts)]) ?k1 ?k2 ?k3 ?k4 ?k6 ?k7 ?k8 ?k9 ?kB ?_ ?c2 ?c3 ?c4 ?c5; (case k1 => k_asm); (case k2 => k_asm); (case k3 => k_asm); (case k4 => k_asm); (case k6 => k_is); (case k7 => k_is); (case k8 => decide); (case k9 => exact BindsTo.of_eq rfl); (case c5 => decide); (case kB => exact locs rfl); (case c2 => exact rfl); (case c3 => exact rfl); (case c4 => exact rfl); (try dsimp only); intro g L' h' F' N' st' X' T' lt' kept' none'
  k_steps
  rename News _ _ _ _ => N9
  rename Fr _ _ _ _ => F9
  rename Obj.IsDictOf _ _ (stored _ _ _) => hd9
  have hdpn : σ.dp ∉ [σ.ix, σ.dx, σ.lf, σ.dc] := by
    simp only [List.mem_cons, List.not_mem_nil, or_false, not_or]
    exact ⟨fun e => n3 e.symm, fun e => n6 e.symm, fun e => n8 e.symm, n10⟩
  have hrn : ∀ p, posOf p σ.fr ≠ [] → σ.adr p ∉ [σ.ix, σ.dx, σ.lf, σ.dc] := fun p hp => by
    have := I.hrd p hp
    simp only [Ix.fixed, List.mem_cons, List.not_mem_nil, or_false, not_or] at this ⊢
    exact ⟨this.1, this.2.1, this.2.2.1, this.2.2.2.2⟩
  obtain ⟨od, hdp, hdd⟩ := I.hdp
  refine hret (mix _ [σ.ix, σ.dx, σ.lf, σ.dc] R) _ _ ⟨mix_l (by k_mem), ⟨a, b, c, d, e, f, g0, h0, i, j, _, y, z, mix_l (by k_mem)⟩, ⟨vs, n, mix_l (by k_mem), hfr⟩, ⟨od, mix_r hdp hdpn, hdd⟩, I.hkv, ?_, ⟨_, _, mix_l (by k_mem), hd9, flat_stored hcf⟩, I.lo1, I.lo2, I.nd, I.hrd, I.inj, Nat.le_trans I.hc1 (Nat.le_succ _), Nat.le_trans I.hc2 (Nat.le_succ _), ?_, ?_⟩ (next_of O F9 N9 st' kept' ?_)
  · intro p hp
    obtain ⟨v1, n1, hm, hi⟩ := I.hrow p hp
    exact ⟨v1, n1, mix_r hm (hrn p hp), hi⟩
  · exact LenLe.put (n := σ.cap) I.hc3 _ _
  · exact ⟨Int.natCast_nonneg _, Int.le_refl _⟩
  · intro q hq
    simp only [List.mem_cons, List.not_mem_nil, or_false] at hq
    rcases hq with rfl | rfl | rfl | rfl
    · exact List.mem_map_of_mem (f := (·.1)) I.hix
    · exact List.mem_map_of_mem (f := (·.1)) hdx
    · exact List.mem_map_of_mem (f := (·.1)) hlf
    · exact List.mem_map_of_mem (f := (·.1)) hdc
end Mine
end
section
namespace Mine
open PyProof.V PySem.Spec
theorem top_off_57 : True := by
  w_top off
  trivial
theorem Next.sub {base h h' : Heap} {R R' R'' : List (Addr × Obj)} (n : Next base h h' R R') (hs : ∀ p ∈ R'', p ∈ R') : Next base h h' R R'' := ⟨fun p hp => n.1 p (hs p hp), n.2.1, fun p hp => n.2.2 p (hs p hp)⟩
theorem ix_fresh {w : World} {ix dx lf dp dc sm : Addr} {adr : Int → Addr} {cap : Nat} {od oc dxo : Obj}
    (hd1 : od.IsDictOf (intKind Challenge.rw_pb0445_01.row.prog w) []) (hd2 : oc.IsDictOf (intKind Challenge.rw_pb0445_01.row.prog w) []) (hf2 : FlatPairs PyData.int [] []) (lo1 : (dp == sysModules) = false) (lo2 : (dc == sysModules) = false)
    (hdx : ∃ a b c d e f g h i j x y z, dxo = ixObj w lf dp dc sm 0 a b c d e f g h i j x y z)
    (n1 : dx ≠ ix) (l1 : ix < lf ∧ dx < lf) (l2 : lf < dp ∧ ix < dp ∧ dx < dp) (l3 : dp < dc ∧ lf < dc ∧ ix < dc ∧ dx < dc) :
    IxLed w ⟨ix, dx, lf, dp, dc, sm, adr, [], [], [], 0, cap⟩ [(dc, oc), (dp, od), (lf, listOf #[] 0), (ix, instObj 74 dx), (dx, dxo)] := by
  obtain ⟨a, b, c, d, e, f, g, h, i, j, x, y, z, rfl⟩ := hdx
  refine ⟨by k_mem, ⟨a, b, c, d, e, f, g, h, i, j, x, y, z, by k_mem⟩, ⟨[], 0, by k_mem, .nil⟩, ⟨od, by k_mem, hd1⟩, fun p => rfl, fun p h => absurd rfl h, ⟨oc, [], by k_mem, hd2, hf2⟩, lo1, lo2, ?_, fun p h => absurd rfl h, fun p _ _ h => absurd rfl h, Nat.zero_le _, Nat.zero_le _, Nat.zero_le _, ⟨Int.le_refl _, Int.le_refl _⟩⟩
  show [ix, dx, lf, dp, dc].Nodup
  simp only [List.nodup_cons, List.mem_cons, List.not_mem_nil, or_false, not_or, List.nodup_nil, and_true, not_false_eq_true]
  have e1 : ix ≠ dx := fun q => n1 q.symm
  exact ⟨⟨e1, Nat.ne_of_lt l1.1, Nat.ne_of_lt l2.2.1, Nat.ne_of_lt l3.2.2.1⟩, ⟨Nat.ne_of_lt l1.2, Nat.ne_of_lt l2.2.2, Nat.ne_of_lt l3.2.2.2⟩, ⟨Nat.ne_of_lt l2.1, Nat.ne_of_lt l3.2.1⟩, Nat.ne_of_lt l3.1⟩
theorem clear_end {w : World} {s : Shared} {base g h' : Heap} {Q : Value → Shared → Prop} {σ : Ix} {R : List (Addr × Obj)} {L' lf dp dc sm : Addr} {m : Str → Option Value} {od oc dxo : Obj} {t1 t2 : Tok} {n tk : Nat}
    (O : Owned base s.heap R) (I : IxLed w σ R) (hk : base.StaysIn s.heap)
    (hd1 : od.IsDictOf (intKind Challenge.rw_pb0445_01.row.prog w) []) (hd2 : oc.IsDictOf (intKind Challenge.rw_pb0445_01.row.prog w) []) (hf2 : FlatPairs PyData.int [] []) (lo1 : (dp == sysModules) = false) (lo2 : (dc == sysModules) = false)
    (hdx : ∃ a b c d e f g h i j x y z, dxo = ixObj w lf dp dc sm 0 a b c d e f g h i j x y z)
    (l1 : σ.ix < lf ∧ σ.dx < lf) (l2 : lf < dp ∧ σ.ix < dp ∧ σ.dx < dp) (l3 : dp < dc ∧ lf < dc ∧ σ.ix < dc ∧ σ.dx < dc) (l4 : dc < sm ∧ dp < sm ∧ lf < sm ∧ σ.ix < sm ∧ σ.dx < sm)
    (F9 : Fr g L' h' m) (N9 : News g L' h' [(sm, tupObj [.int 0 t1, .int 0 t2] n), (dc, oc), (dp, od), (lf, listOf #[] 0), (σ.ix, instObj 74 σ.dx), (σ.dx, dxo)])
    (st : base.StaysIn g) (k : ∀ b o, s.heap.get? b = some o → b ∉ [σ.ix, σ.dx] → g.get? b = some o)
    (hret : ∀ lf' dp' dc' sm' R' t1 t2 n h' tk', IxLed w { σ with lf := lf', dp := dp', dc := dc', sm := sm', fr := [], kv := [], cd := [], last := 0 } R' → Next base s.heap h' R R' → h'.get? sm' = some (tupObj [.int 0 t1, .int 0 t2] n) → s.heap.get? sm' = none → (∀ p ∈ R', p.1 ≠ sm') → Q .none { s with heap := h', toks := tk' }) :
    Q .none { s with heap := h', toks := tk } := by
  have nd := I.nd
  simp only [Ix.fixed, List.nodup_cons, List.mem_cons, List.not_mem_nil, or_false, not_or] at nd
  have n1 : σ.dx ≠ σ.ix := fun q => nd.1.1 q.symm
  obtain ⟨_, _, _, _, _, _, _, _, _, _, _, _, _, hdx0⟩ := I.hdx
  have nx := next_of (R := R) (A := [σ.ix, σ.dx]) O F9 N9 st k (fun a ha => by
    simp only [List.mem_cons, List.not_mem_nil, or_false] at ha
    rcases ha with rfl | rfl
    · exact List.mem_map_of_mem (f := (·.1)) I.hix
    · exact List.mem_map_of_mem (f := (·.1)) hdx0)
  refine hret lf dp dc sm _ t1 t2 n h' tk (ix_fresh hd1 hd2 hf2 lo1 lo2 hdx n1 l1 l2 l3) (nx.sub fun p hp => List.mem_append_left _ (.tail _ hp)) (N9 _ (.head _)).1 (fresh_of k (N9 _ (.head _)).2.2 ?_) ?_
  · simp only [List.mem_cons, List.not_mem_nil, or_false, not_or]
    exact ⟨Nat.ne_of_gt l4.2.2.2.1, Nat.ne_of_gt l4.2.2.2.2⟩
  · intro p hp
    simp only [List.mem_cons, List.not_mem_nil, or_false] at hp
    rcases hp with rfl | rfl | rfl | rfl | rfl
    · exact Nat.ne_of_lt l4.1
    · exact Nat.ne_of_lt l4.2.1
    · exact Nat.ne_of_lt l4.2.2.1
    · exact Nat.ne_of_lt l4.2.2.2.1
    · exact Nat.ne_of_lt l4.2.2.2.2
set_option maxHeartbeats 4000000 in
theorem clear_spec {w : World} {s : Shared} {base : Heap} {loose : List Str} {mean : ExcName → Option Value} {mg mb : Str → Option Value} {Q : Value → Shared → Prop} {σ : Ix} {R : List (Addr × Obj)}
    (X : (hd.heap_39 w.params).In base) (T : Top hd.view_39 loose mean mg mb base) (hk : base.StaysIn s.heap) (O : Owned base s.heap R) (I : IxLed w σ R)
    (hret : ∀ lf' dp' dc' sm' R' t1 t2 n h' tk', IxLed w { σ with lf := lf', dp := dp', dc := dc', sm := sm', fr := [], kv := [], cd := [], last := 0 } R' → Next base s.heap h' R R' → h'.get? sm' = some (tupObj [.int 0 t1, .int 0 t2] n) → s.heap.get? sm' = none → (∀ p ∈ R', p.1 ≠ sm') → Q .none { s with heap := h', toks := tk' }) :
    wpAny (model Challenge.rw_pb0445_01.row.prog w) (Aro 600 6000) (call (.ref 36) [.ref σ.ix]) Q (fun _ _ => False) s := by
  revert X
  k_fill
  intro X
  obtain ⟨a, b, c, d, e, f, g0, h0, i, j, x, y, z, hdx⟩ := I.hdx
  have nd := I.nd
  simp only [Ix.fixed, List.nodup_cons, List.mem_cons, List.not_mem_nil, or_false, not_or] at nd
  obtain ⟨⟨n1, n2, n3, n4⟩, ⟨n5, n6, n7⟩, ⟨n8, n9⟩, n10, _⟩ := nd
  replace n1 := neN n1
  have hled := owned_cons O I.hix (owned_cons O hdx owned_nil)
  refine' call_own (binds := [(Str.ofString "self", .ref σ.ix)]) ?k1 ?k2 ?k3 ?k4 ?k6 ?k7 ?k8 ?k9 ?kB ?_ ?c2 ?c3 ?c4 ?c5; (case k1 => k_asm); (case k2 => k_asm); (case k3 => k_asm); (case k4 => k_asm); (case k6 => k_is); (case k7 => k_is); (case k8 => decide); (case k9 => exact BindsTo.of_eq rfl); (case c5 => decide); (case kB => exact locs rfl); (case c2 => exact rfl); (case c3 => exact rfl); (case c4 => exact rfl); (try dsimp only); intro g L' h' F' N' st' X' T' lt' kept' none'
  k_steps
  rename News _ _ _ _ => N9
  rename Fr _ _ _ _ => F9
  refine clear_end (s := s) O I hk ?d1 ?d2 ?f2 ?o1 ?o2 ⟨_, _, _, _, _, _, _, _, _, _, _, _, _, rfl⟩ ?l1 ?l2 ?l3 ?l4 F9 N9 st' kept' hret
  all_goals assumption
end Mine
end
section
namespace Mine
open PyProof.V PySem.Spec
theorem top_off_58 : True := by
  w_top off
  trivial
theorem init_end {w : World} {s : Shared} {base g h' : Heap} {Q : Value → Shared → Prop} {L' x dx lf dp dc sm : Addr} {m : Str → Option Value} {od oc dxo : Obj} {t1 t2 : Tok} {n tk : Nat}
    (O : Owned base s.heap [(x, instObj 74 dx), (dx, dictOf [] 0)]) (hlt : dx < x)
    (hd1 : od.IsDictOf (intKind Challenge.rw_pb0445_01.row.prog w) []) (hd2 : oc.IsDictOf (intKind Challenge.rw_pb0445_01.row.prog w) []) (hf2 : FlatPairs PyData.int [] []) (lo1 : (dp == sysModules) = false) (lo2 : (dc == sysModules) = false)
    (hdx : ∃ a b c d e f g h i j x y z, dxo = ixObj w lf dp dc sm 0 a b c d e f g h i j x y z)
    (l1 : x < lf ∧ dx < lf) (l2 : lf < dp ∧ x < dp ∧ dx < dp) (l3 : dp < dc ∧ lf < dc ∧ x < dc ∧ dx < dc) (l4 : dc < sm ∧ dp < sm ∧ lf < sm ∧ x < sm ∧ dx < sm)
    (F9 : Fr g L' h' m) (N9 : News g L' h' [(sm, tupObj [.int 0 t1, .int 0 t2] n), (dc, oc), (dp, od), (lf, listOf #[] 0), (x, instObj 74 dx), (dx, dxo)])
    (st : base.StaysIn g) (k : ∀ b o, s.heap.get? b = some o → b ∉ [x, dx] → g.get? b = some o)
    (hret : ∀ lf' dp' dc' sm' R' t1 t2 n h' tk', IxLed w ⟨x, dx, lf', dp', dc', sm', fun _ => 0, [], [], [], 0, 0⟩ R' → Owned base h' R' → Kept [x, dx] s.heap h' → (∀ p ∈ R', dx ≤ p.1 ∧ p.1 < sm') → h'.get? sm' = some (tupObj [.int 0 t1, .int 0 t2] n) → base.get? sm' = none → (∀ p ∈ R', p.1 ∈ [x, dx] ∨ s.heap.get? p.1 = none) → s.heap.get? sm' = none → Q .none { s with heap := h', toks := tk' }) :
    Q .none { s with heap := h', toks := tk } := by
  have n1 : dx ≠ x := Nat.ne_of_lt hlt
  have nx := next_of (R := [(x, instObj 74 dx), (dx, dictOf [] 0)]) (A := [x, dx]) O F9 N9 st k (fun a ha => ha)
  refine hret lf dp dc sm _ t1 t2 n h' tk (ix_fresh hd1 hd2 hf2 lo1 lo2 hdx n1 l1 l2 l3) (fun p hp => nx.1 p (List.mem_append_left _ (.tail _ hp))) nx.2.1 ?_ (N9 _ (.head _)).1 (nx.1 _ (List.mem_append_left _ (.head _))).2 (fun p hp => nx.2.2 p (List.mem_append_left _ (.tail _ hp))) (fresh_of k (N9 _ (.head _)).2.2 (by
    simp only [List.mem_cons, List.not_mem_nil, or_false, not_or]
    exact ⟨Nat.ne_of_gt l4.2.2.2.1, Nat.ne_of_gt l4.2.2.2.2⟩))
  · intro p hp
    simp only [List.mem_cons, List.not_mem_nil, or_false] at hp
    rcases hp with rfl | rfl | rfl | rfl | rfl
    · exact ⟨Nat.le_of_lt l3.2.2.2, l4.1⟩
    · exact ⟨Nat.le_of_lt l2.2.2, l4.2.1⟩
    · exact ⟨Nat.le_of_lt l1.2, l4.2.2.1⟩
    · exact ⟨Nat.le_of_lt hlt, l4.2.2.2.1⟩
    · exact ⟨Nat.le_refl _, l4.2.2.2.2⟩
set_option maxHeartbeats 4000000 in
theorem init_spec {w : World} {s : Shared} {base : Heap} {loose : List Str} {mean : ExcName → Option Value} {mg mb : Str → Option Value} {Q : Value → Shared → Prop} {x dx : Addr}
    (X : (hd.heap_39 w.params).In base) (T : Top hd.view_39 loose mean mg mb base) (hk : base.StaysIn s.heap) (hled : Owned base s.heap [(x, instObj 74 dx), (dx, dictOf [] 0)]) (hlt : dx < x)
    (hret : ∀ lf' dp' dc' sm' R' t1 t2 n h' tk', IxLed w ⟨x, dx, lf', dp', dc', sm', fun _ => 0, [], [], [], 0, 0⟩ R' → Owned base h' R' → Kept [x, dx] s.heap h' → (∀ p ∈ R', dx ≤ p.1 ∧ p.1 < sm') → h'.get? sm' = some (tupObj [.int 0 t1, .int 0 t2] n) → base.get? sm' = none → (∀ p ∈ R', p.1 ∈ [x, dx] ∨ s.heap.get? p.1 = none) → s.heap.get? sm' = none → Q .none { s with heap := h', toks := tk' }) :
    codeAny (model Challenge.rw_pb0445_01.row.prog w) (Aro 600 6000) (.call (.ref 29) ⟨[.ref x], []⟩) (fun r s' => match r with | .ok (.ret v) => Q v s' | .ok _ => False | .error e => False) s := by
  revert X
  k_fill
  intro X
  refine' code_own (binds := [(Str.ofString "self", .ref x)]) ?k1 ?k2 ?k3 ?k4 ?k6 ?k7 ?k8 ?k9 ?kB ?_ ?c2 ?c3 ?c4 ?c5; (case k1 => k_asm); (case k2 => k_asm); (case k3 => k_asm); (case k4 => k_asm); (case k6 => k_is); (case k7 => k_is); (case k8 => decide); (case k9 => exact BindsTo.of_eq rfl); (case c5 => decide); (case kB => exact locs rfl); (case c2 => exact rfl); (case c3 => exact rfl); (case c4 => exact rfl); (try dsimp only); intro g L' h' F' N' st' X' T' lt' kept' none'
  have hlt' := ltN hlt
  k_steps
  rename News _ _ _ _ => N9
  rename Fr _ _ _ _ => F9
  refine init_end (s := s) hled hlt ?d1 ?d2 ?f2 ?o1 ?o2 ⟨_, _, _, _, _, _, _, _, _, _, _, _, _, rfl⟩ ?l1 ?l2 ?l3 ?l4 F9 N9 st' kept' hret
  all_goals assumption
/-- the class called: an index, empty -/
theorem make_use {w : World} {s : Shared} {h₀ : Heap} {loose : List Str} {mean : ExcName → Option Value} {mg mb : Str → Option Value} {A : Around} {L : Addr} {m : Str → Option Value} {news : List (Addr × Obj)} {Q E : Value → Shared → Prop}
    (F : Fr h₀ L s.heap m) (N : News h₀ L s.heap news) (X : (hd.heap_39 w.params).In h₀) (T : Top hd.view_39 loose mean mg mb h₀) (hm : makesIn (hd.heap_39 w.params) 74 = true) (hi : findIn (hd.heap_39 w.params) (.ref 74) "__init__" = some (some (.ref 29))) (hf : isFn (hd.heap_39 w.params) (.ref 29) = true)
    (hh : (A.under (.builtin "type.__call__" ⟨[.ref 74], []⟩)).handled = none) (hd' : (A.under (.builtin "type.__call__" ⟨[.ref 74], []⟩)).depth ≤ 600) (hu : (A.under (.builtin "type.__call__" ⟨[.ref 74], []⟩)).units ≤ 6000)
    (h : ∀ σ R t1 t2 n h' tk', IxLed w σ R → σ.fr = [] → σ.cd = [] → σ.last = 0 → σ.cap = 0 → Fr h₀ L h' m → News h₀ L h' ((σ.sm, tupObj [.int 0 t1, .int 0 t2] n) :: (news ++ R)) → (∀ q ∈ R, ∀ p ∈ news, p.1 < q.1) → (∀ q ∈ R, q.1 < σ.sm) → (∀ p ∈ news, p.1 < σ.sm) → Q (.ref σ.ix) { s with heap := h', toks := tk' }) :
    wpAny (model Challenge.rw_pb0445_01.row.prog w) A (call (.ref 74) []) Q E s := by
  refine call_cls (K := hd.heap_39 w.params) (fI := 29) F X N hm hi hf fun x dx h' F' N' l1 l2 => ?_
  have hb : Owned h₀ h' [(x, instObj 74 dx), (dx, dictOf [] 0)] := fun p hp => by
    have : p ∈ (x, instObj 74 dx) :: (dx, dictOf [] 0) :: news := by
      rcases List.mem_cons.mp hp with rfl | hp
      · exact .head _
      · rw [List.mem_singleton.mp hp]; exact .tail _ (.head _)
    exact ⟨(N' p this).1, (N' p this).2.2⟩
  refine aroC 600 6000 (codeAny_mono (init_spec (s := { s with heap := h' }) (Q := fun v s' => v = .none ∧ Q (.ref x) s') X T (fun b o e => F'.keep b o e) hb l2 ?_) fun r s' q => ?_) hh hd' hu
  · intro lf dp dc sm R t1 t2 n h2 tk2 I O K hb1 hg hs hfr hsf
    have hxL : x ≠ L ∧ dx ≠ L := ⟨(N' _ (.head _)).2.1, (N' _ (.tail _ (.head _))).2.1⟩
    have F2 : Fr h₀ L h2 m := fr_after F' (fun a ha => by
      rcases List.mem_cons.mp ha with rfl | ha
      · exact ⟨(N' _ (.head _)).2.2, hxL.1⟩
      · rw [List.mem_singleton.mp ha]; exact ⟨(N' _ (.tail _ (.head _))).2.2, hxL.2⟩) K
    obtain ⟨oL, es, ep, hL, hLd, hLk, _⟩ := F'.ns
    refine ⟨rfl, h ⟨x, dx, lf, dp, dc, sm, fun _ => 0, [], [], [], 0, 0⟩ R t1 t2 n h2 tk2 I rfl rfl rfl rfl F2 ?_ (fun q hq p hp => Nat.lt_of_lt_of_le (l1 p hp) (hb1 q hq).1) (fun q hq => (hb1 q hq).2) (fun p hp => Nat.lt_trans (l1 p hp) (Nat.lt_of_le_of_lt (hb1 _ I.hix).1 (hb1 _ I.hix).2))⟩
    intro p hp
    rcases List.mem_cons.mp hp with rfl | hp
    · exact ⟨hg, fun e => (by have e' : sm = L := e; rw [e', hL] at hsf; cases hsf), hs⟩
    · rcases List.mem_append.mp hp with hp | hp
      · have hn := N' p (.tail _ (.tail _ hp))
        refine ⟨K _ _ hn.1 fun q => ?_, hn.2⟩
        have h1 := l1 p hp
        rcases List.mem_cons.mp q with q | q
        · exact Nat.lt_irrefl _ (Nat.lt_trans (q ▸ h1) l2)
        · have q' := List.mem_singleton.mp q
          exact Nat.lt_irrefl _ (q' ▸ h1)
      · refine ⟨(O p hp).1, fun e => ?_, (O p hp).2⟩
        rcases hfr p hp with q | q
        · rcases List.mem_cons.mp q with q | q
          · exact hxL.1 (q.symm.trans e)
          · exact hxL.2 ((List.mem_singleton.mp q).symm.trans e)
        · rw [e, hL] at q; cases q
  · match r, q with
    | .ok (.ret v), q => exact q
end Mine
end
section
namespace Mine
open PyProof.V PySem.Spec
local macro_rules | `(tactic| walk_at "pad 0") => `(tactic| fail)
theorem top_off_60 : True := by
  w_top off
  trivial
theorem filter_le_take {l : List Int} {k : Nat} {x : Int} (hk : k ≤ l.length) (h1 : ∀ i, i < k → l.getD i 0 ≤ x) (h2 : ∀ i, k ≤ i → i < l.length → x < l.getD i 0) : (l.filter fun y => decide (y ≤ x)) = l.take k := by
  have e := List.take_append_drop k l
  have g : ∀ i (h : i < l.length), l.getD i 0 = l[i] := fun i h => by simp [List.getD_eq_getElem?_getD, h]
  have a1 : (l.take k).filter (fun y => decide (y ≤ x)) = l.take k := List.filter_eq_self.mpr fun y hy => by
    obtain ⟨i, hi, rfl⟩ := List.getElem_of_mem hy
    rw [List.length_take] at hi
    have := h1 i (by omega)
    rw [g i (by omega)] at this
    simpa using this
  have a2 : (l.drop k).filter (fun y => decide (y ≤ x)) = [] := List.filter_eq_nil_iff.mpr fun y hy => by
    obtain ⟨i, hi, rfl⟩ := List.getElem_of_mem hy
    rw [List.length_drop] at hi
    have := h2 (k + i) (by omega) (by omega)
    rw [g (k + i) (by omega)] at this
    simp only [List.getElem_drop, decide_eq_true_eq]; omega
  conv => lhs; rw [← e]
  rw [List.filter_append, a1, a2, List.append_nil]
theorem last_take {l : List Int} {k : Nat} (hk : k ≤ l.length) : ((l.take k).getLast?).getD 0 = if 0 < k then l.getD (k - 1) 0 else 0 := by
  cases k with
  | zero => rfl
  | succ k =>
    rw [take_snoc_get (by omega), List.getLast?_append]
    simp [List.getD_eq_getElem?_getD, show k < l.length by omega]
theorem lastIn_whole {p : Int} {l : List Int} {mark : Int} (h : 0 ≤ mark) : lastIn p (l.take mark.toNat) = (((posOf p l).filter fun x => decide (x ≤ mark)).getLast?).getD 0 := by
  by_cases hm : mark.toNat ≤ l.length
  · have := lastIn_posOf p l mark.toNat hm
    have e : ((mark.toNat : Nat) : Int) = mark := by omega
    rw [e] at this; exact this
  · have e1 : l.take mark.toNat = l.take l.length := by rw [List.take_length, List.take_of_length_le (by omega)]
    rw [e1, lastIn_posOf p l l.length (Nat.le_refl _)]
    have e2 : ∀ x ∈ posOf p l, decide (x ≤ (l.length : Int)) = decide (x ≤ mark) := fun x hx => by
      have := posFrom_bound p l 0 x hx
      rw [decide_eq_true (by omega), decide_eq_true (by omega)]
    rw [List.filter_congr e2]
theorem lastIn_none {p : Int} {l : List Int} {mark : Int} (h : 0 ≤ mark) (hp : posOf p l = []) : lastIn p (l.take mark.toNat) = 0 := by rw [lastIn_whole h, hp]; rfl
theorem row_mono {p : Int} {l : List Int} {i j : Nat} (h : i ≤ j) (hj : j < (posOf p l).length) : (posOf p l).getD i 0 ≤ (posOf p l).getD j 0 := by
  rcases Nat.eq_or_lt_of_le h with rfl | h
  · exact Int.le_refl _
  · have := (List.pairwise_iff_getElem.mp (posFrom_sorted p l 0)) i j (by show i < (posOf p l).length; omega) hj h
    have e : ∀ k (hk : k < (posOf p l).length), (posOf p l).getD k 0 = (posOf p l)[k] := fun k hk => by simp [List.getD_eq_getElem?_getD, hk]
    rw [e i (by omega), e j hj]
    exact Int.le_of_lt this
theorem bs_left {p mid mark : Int} {l : List Int} (h0 : 0 ≤ mid) (hm : mid < ((posOf p l).length : Int)) (hc : (posOf p l).getD mid.toNat 0 ≤ mark) : ∀ i, i < (mid + 1).toNat → (posOf p l).getD i 0 ≤ mark := fun i hi =>
  Int.le_trans (row_mono (by omega) (by omega)) hc
theorem bs_right {p mid mark : Int} {l : List Int} (hc : mark < (posOf p l).getD mid.toNat 0) : ∀ i, mid.toNat ≤ i → i < (posOf p l).length → mark < (posOf p l).getD i 0 := fun i hi hl =>
  Int.lt_of_lt_of_le hc (row_mono hi hl)
theorem bs_end {p mark k : Int} {l : List Int} (h : 0 ≤ mark) (h0 : 0 ≤ k) (hk : k ≤ ((posOf p l).length : Int)) (h1 : ∀ i, i < k.toNat → (posOf p l).getD i 0 ≤ mark) (h2 : ∀ i, k.toNat ≤ i → i < (posOf p l).length → mark < (posOf p l).getD i 0) :
    lastIn p (l.take mark.toNat) = if 0 < k then (posOf p l).getD (k - 1).toNat 0 else 0 := by
  rw [lastIn_whole h, filter_le_take (k := k.toNat) (by omega) h1 h2, last_take (by omega)]
  by_cases hk0 : 0 < k
  · rw [if_pos hk0, if_pos (by omega)]
    congr 1; omega
  · rw [if_neg hk0, if_neg (by omega)]
local macro_rules | `(tactic| walk_at "setItem ref int") => `(tactic| (k_here; k_dflt (refine' dset ?F ?N ?U ?d ?z ?_; (case F => k_asm); (case N => k_asm); (case U => k_updF); (case d => k_asm); (case z => omega); k_whole); intro h' o' F' N' hd'; (try dsimp only at N'); (try k_sweep)))
local macro_rules | `(tactic| walk_at "setItem ref int int") => `(tactic| (k_here; k_dflt (refine' dset ?F ?N ?U ?d ?z ?_; (case F => k_asm); (case N => k_asm); (case U => k_updF); (case d => k_asm); (case z => omega); k_whole); intro h' o' F' N' hd'; (try dsimp only at N'); (try k_sweep)))
local macro_rules | `(tactic| walk_at "compareOp NotIn int ref") => `(tactic| (k_here; k_dflt (first
  | (refine' dnotin_none ?N ?m ?d ?l ?v ?_; (case N => k_asm); (case m => k_mem); (case d => k_asm); (case l => k_asm); (case v => k_asm); k_whole)
  | (refine' dnotin_some ?N ?m ?d ?l ?v ?_; (case N => k_asm); (case m => k_mem); (case d => k_asm); (case l => k_asm); (case v => k_asm); k_whole))))
local macro_rules | `(tactic| walk_at "subscriptTail") => `(tactic| (k_here; (with_reducible show wpAny _ _ (subscriptTail _ _ (Value.ref _) (Value.int _ _)) _ _ _); k_dflt (refine' ditem ?N ?m ?d ?v ?_ ?hs; (case N => k_asm); (case m => k_mem); (case d => k_asm); (case v => first | k_asm | exact valueAt_same _ _ _); (case hs => with_unfolding_all rfl); k_whole)))
local macro_rules | `(tactic| walk_at "getMethod ref") => `(tactic| (k_here; k_dflt (refine' dgetm ?N ?m ?d ?_; (case N => k_asm); (case m => k_mem); (case d => k_asm); k_whole)))
local macro_rules | `(tactic| walk_at "call builtin:dict.get") => `(tactic| (k_here; k_dflt (first
  | (refine' dget_some ?N ?m ?d ?l ?v ?_; (case N => k_asm); (case m => k_mem); (case d => k_asm); (case l => k_asm); (case v => k_asm); k_whole)
  | (refine' dget_none ?N ?m ?d ?l ?v ?_; (case N => k_asm); (case m => k_mem); (case d => k_asm); (case l => k_asm); (case v => k_asm); k_whole))))
local macro_rules | `(tactic| walk_at "delItem ref int") => `(tactic| (k_here; k_dflt (refine' ddel ?F ?N ?U ?d ?z ?v ?_; (case F => k_asm); (case N => k_asm); (case U => k_updF); (case d => k_asm); (case z => omega); (case v => k_asm); k_whole); intro h' o' F' N' hd'; (try dsimp only at N'); (try k_sweep)))
local macro_rules | `(tactic| walk_at "exec While Compare cons nil") => `(tactic| (with_reducible refine stop ?_))
set_option maxHeartbeats 4000000 in
theorem frame_spec {w : World} {s : Shared} {base : Heap} {loose : List Str} {mean : ExcName → Option Value} {mg mb : Str → Option Value} {Q : Value → Shared → Prop} {σ : Ix} {R : List (Addr × Obj)} {page mark : Int} {t u : Tok}
    (X : (hd.heap_39 w.params).In base) (T : Top hd.view_39 loose mean mg mb base) (hk : base.StaysIn s.heap) (O : Owned base s.heap R) (I : IxLed w σ R) (hcap : σ.cap ≤ 500) (h1 : 0 ≤ mark) (h2 : mark ≤ 1000)
    (hret : ∀ td h' tk', Kept [] s.heap h' → Q (.int (lastIn page (σ.fr.take mark.toNat)) td) { s with heap := h', toks := tk' }) :
    wpAny (model Challenge.rw_pb0445_01.row.prog w) (Aro 600 6000) (call (.ref 64) [.ref σ.ix, .int page t, .int mark u]) Q (fun _ _ => False) s := by
  revert X
  k_fill
  intro X
  obtain ⟨a, b, c, d, e, f, g0, h0, i, j, x, y, z, hdx⟩ := I.hdx
  obtain ⟨od, hdp, hdd⟩ := I.hdp
  have nd := I.nd
  simp only [Ix.fixed, List.nodup_cons, List.mem_cons, List.not_mem_nil, or_false, not_or] at nd
  obtain ⟨⟨n1, n2, n3, n4⟩, ⟨n5, n6, n7⟩, ⟨n8, n9⟩, n10, _⟩ := nd
  replace n1 := neN n1; replace n3 := neN n3; replace n6 := neN n6
  have lo := I.lo1
  have hc2 := I.hc2
  by_cases hp : posOf page σ.fr = []
  · have hv : valueAt σ.kv page = none := by rw [I.hkv, if_pos hp]
    have hled := owned_cons O I.hix (owned_cons O hdx (owned_cons O hdp owned_nil))
    refine' call_own (binds := [(Str.ofString "self", .ref σ.ix), (Str.ofString "page", .int page t), (Str.ofString "mark", .int mark u)]) ?k1 ?k2 ?k3 ?k4 ?k6 ?k7 ?k8 ?k9 ?kB ?_ ?c2 ?c3 ?c4 ?c5; (case k1 => k_asm); (case k2 => k_asm); (case k3 => k_asm); (case k4 => k_asm); (case k6 => k_is); (case k7 => k_is); (case k8 => decide); (case k9 => exact BindsTo.of_eq rfl); (case c5 => decide); (case kB => exact locs rfl); (case c2 => exact rfl); (case c3 => exact rfl); (case c4 => exact rfl); (try dsimp only); intro g L' h' F' N' st' X' T' lt' kept' none'
    k_steps
    dsimp only
    rename News _ _ _ _ => N9
    rename Fr _ _ _ _ => F9
    have hr := hret
    rw [lastIn_none h1 hp] at hr
    exact hr _ _ _ (kept_nil (kept_of F9 kept') (fun p hp => (hled p hp).1) (fun p hp => (N9 p hp).1))
  · have hv : valueAt σ.kv page = some (.ref (σ.adr page)) := by rw [I.hkv, if_neg hp]
    obtain ⟨rvs, rn, hra, hri⟩ := I.hrow page hp
    have hrl := hri.length
    have hrb := posOf_length page σ.fr
    have hled := owned_cons O I.hix (owned_cons O hdx (owned_cons O hdp (owned_cons O hra owned_nil)))
    refine' call_own (binds := [(Str.ofString "self", .ref σ.ix), (Str.ofString "page", .int page t), (Str.ofString "mark", .int mark u)]) ?k1 ?k2 ?k3 ?k4 ?k6 ?k7 ?k8 ?k9 ?kB ?_ ?c2 ?c3 ?c4 ?c5; (case k1 => k_asm); (case k2 => k_asm); (case k3 => k_asm); (case k4 => k_asm); (case k6 => k_is); (case k7 => k_is); (case k8 => decide); (case k9 => exact BindsTo.of_eq rfl); (case c5 => decide); (case kB => exact locs rfl); (case c2 => exact rfl); (case c3 => exact rfl); (case c4 => exact rfl); (try dsimp only); intro g L' h' F' N' st' X' T' lt' kept' none'
    k_steps
    unfold Stop
    rename Fr _ _ _ _ => F9
    rename News _ _ _ _ => N9
    have hL := posFrom_bound page σ.fr 0
    refine While_inv2 (fun n m nx => nx = [(σ.ix, instObj 74 σ.dx), (σ.dx, ixObj w σ.lf σ.dp σ.dc σ.sm σ.last a b c d e f g0 h0 i j x y z), (σ.dp, od), (σ.adr page, listOf rvs.toArray rn)] ∧ ∃ lo hi tl th, n = (hi - lo).toNat ∧ 0 ≤ lo ∧ lo ≤ hi ∧ hi ≤ ((posOf page σ.fr).length : Int) ∧ (∀ i, i < lo.toNat → (posOf page σ.fr).getD i 0 ≤ mark) ∧ (∀ i, hi.toNat ≤ i → i < (posOf page σ.fr).length → mark < (posOf page σ.fr).getD i 0) ∧
      Has m [(Str.ofString "row", .ref (σ.adr page)), (Str.ofString "mark", .int mark u), (Str.ofString "low", .int lo tl), (Str.ofString "high", .int hi th)])
      F9 (fun p hp => N9 p (.tail _ hp)) ⟨rfl, _, _, _, _, rfl, Int.le_refl _, Int.natCast_nonneg _, Int.le_refl _, fun i hi => absurd hi (Nat.not_lt_zero _), fun i h1 h2 => absurd h2 (by rw [Int.toNat_natCast] at h1; exact Nat.not_lt.mpr h1), rfl, rfl, rfl, rfl, trivial⟩ ?_ PassesOwn.never
    rintro n9 m₁ news₁ hp1 tk1 F1 N1 ⟨rfl, lo9, hi9, tl, th, hn, k1, k2, k3, k4, k5, hm⟩
    have F2 := fr_has F1 hm
    clear F1 F9 N9
    have hmid : lo9 < hi9 → lo9 ≤ (lo9 + hi9).fdiv 2 ∧ (lo9 + hi9).fdiv 2 < hi9 := fun h => by rw [fd_e _ (by decide)]; omega
    k_steps
    · rename Fr _ _ _ _ => F3
      rename News _ _ _ _ => N3
      rename List.getD _ _ _ ≤ mark => hc
      refine ⟨_, _, _, _, _, rfl, F3, N3, ?_, rfl, _, _, _, _, rfl, ?_, ?_, k3, bs_left (by omega) (by omega) hc, k5, rfl, rfl, rfl, rfl, trivial⟩
      all_goals omega
    · rename Fr _ _ _ _ => F3
      rename News _ _ _ _ => N3
      rename ¬ (List.getD _ _ _ ≤ mark) => hc
      refine ⟨_, _, _, _, _, rfl, F3, N3, ?_, rfl, _, _, _, _, rfl, k1, ?_, ?_, k4, bs_right (by omega), rfl, rfl, rfl, rfl, trivial⟩
      all_goals omega
    · dsimp only
      rename Fr _ _ _ _ => F3
      rename News _ _ _ _ => N3
      have e := bs_end h1 k1 (by omega) k4 (fun i q => k5 i (by omega))
      rw [if_pos (by omega)] at e
      rw [← e]
      exact hret _ _ _ (kept_nil (kept_of F3 kept') (fun p hp => (hled p hp).1) (fun p hp => (N3 p hp).1))
    · dsimp only
      rename Fr _ _ _ _ => F3
      rename News _ _ _ _ => N3
      have e := bs_end h1 k1 (by omega) k4 (fun i q => k5 i (by omega))
      rw [if_neg (by omega)] at e
      have hr := hret
      rw [e] at hr
      exact hr _ _ _ (kept_nil (kept_of F3 kept') (fun p hp => (hled p hp).1) (fun p hp => (N3 p hp).1))
end Mine
end
section
namespace Mine
open PyProof.V PySem.Spec
local macro_rules | `(tactic| walk_at "pad 0") => `(tactic| fail)
local macro_rules | `(tactic| walk_at "pad 1") => `(tactic| fail)
local macro_rules | `(tactic| walk_at "pad 2") => `(tactic| fail)
local macro_rules | `(tactic| walk_at "pad 3") => `(tactic| fail)
local macro_rules | `(tactic| walk_at "pad 4") => `(tactic| fail)
local macro_rules | `(tactic| walk_at "pad 5") => `(tactic| fail)
local macro_rules | `(tactic| walk_at "pad 6") => `(tactic| fail)
local macro_rules | `(tactic| walk_at "pad 7") => `(tactic| fail)
theorem top_off_62 : True := by
  w_top off
  trivial
local macro_rules | `(tactic| walk_at "setItem ref int int") => `(tactic| (k_here; k_dflt (refine' dset ?F ?N ?U ?d ?z ?_; (case F => k_asm); (case N => k_asm); (case U => k_updF); (case d => k_asm); (case z => omega); k_whole); intro h' o' F' N' hd'; (try dsimp only at N'); (try k_sweep)))
local macro_rules | `(tactic| walk_at "pyIter ref") => `(tactic| (with_reducible refine stop ?_))
set_option maxHeartbeats 4000000 in
theorem newest_spec {w : World} {s : Shared} {base : Heap} {loose : List Str} {mean : ExcName → Option Value} {mg mb : Str → Option Value} {Q : Value → Shared → Prop} {σ : Ix} {R : List (Addr × Obj)} {above mark : Int} {t u : Tok}
    (X : (hd.heap_39 w.params).In base) (T : Top hd.view_39 loose mean mg mb base) (hk : base.StaysIn s.heap) (O : Owned base s.heap R) (I : IxLed w σ R) (hcap : σ.cap ≤ 500) (h1 : 0 ≤ above) (h2 : above ≤ mark) (h3 : mark ≤ σ.fr.length)
    (hret : ∀ fd o kvs h' tk', h'.get? fd = some o → o.IsDictOf (intKind Challenge.rw_pb0445_01.row.prog w) kvs → FlatPairs PyData.int kvs (newD σ.fr above.toNat (mark - above).toNat) → s.heap.get? fd = none → (fd == sysModules) = false → Kept [] s.heap h' → Q (.ref fd) { s with heap := h', toks := tk' }) :
    wpAny (model Challenge.rw_pb0445_01.row.prog w) (Aro 600 6000) (call (.ref 71) [.ref σ.ix, .int above t, .int mark u]) Q (fun _ _ => False) s := by
  revert X
  k_fill
  intro X
  obtain ⟨a, b, c, d, e, f, g0, h0, i0, j, x, y, z, hdx⟩ := I.hdx
  obtain ⟨vs, n, hlf, hfr⟩ := I.hlf
  have nd := I.nd
  simp only [Ix.fixed, List.nodup_cons, List.mem_cons, List.not_mem_nil, or_false, not_or] at nd
  obtain ⟨⟨n1, n2, n3, n4⟩, ⟨n5, n6, n7⟩, ⟨n8, n9⟩, n10, _⟩ := nd
  replace n1 := neN n1; replace n2 := neN n2; replace n5 := neN n5
  have hc2 := I.hc2
  have hled := owned_cons O I.hix (owned_cons O hdx (owned_cons O hlf owned_nil))
  refine' call_own (binds := [(Str.ofString "self", .ref σ.ix), (Str.ofString "above", .int above t), (Str.ofString "mark", .int mark u)]) ?k1 ?k2 ?k3 ?k4 ?k6 ?k7 ?k8 ?k9 ?kB ?_ ?c2 ?c3 ?c4 ?c5; (case k1 => k_asm); (case k2 => k_asm); (case k3 => k_asm); (case k4 => k_asm); (case k6 => k_is); (case k7 => k_is); (case k8 => decide); (case k9 => exact BindsTo.of_eq rfl); (case c5 => decide); (case kB => exact locs rfl); (case c2 => exact rfl); (case c3 => exact rfl); (case c4 => exact rfl); (try dsimp only); intro g L' h' F' N' st' X' T' lt' kept' none'
  k_steps
  unfold Stop
  rename IsRange _ _ _ _ _ _ _ _ => hR
  rename Fr _ _ _ _ => F9
  rename News _ _ _ _ => N9
  rename (_ == sysModules) = false => lo1
  rename Obj.IsDictOf (intKind _ _) _ _ => hd1
  rename FlatPairs PyData.int _ _ => hf1
  rename σ.ix < _ ∧ _ => l9
  have e9 : ((mark + 1) - (above + 1)).toNat = (mark - above).toNat := by omega
  refine range_loop (newestJ w [(σ.ix, instObj 74 σ.dx), (σ.dx, ixObj w σ.lf σ.dp σ.dc σ.sm σ.last a b c d e f g0 h0 i0 j x y z), (σ.lf, listOf vs.toArray n)] σ.fr above.toNat [(Str.ofString "self", .ref σ.ix)] lo1) rfl hR (by omega) (by omega) F9 N9 ⟨_, _, rfl, hd1, hf1, rfl, rfl, trivial⟩ ?_ ?_
  · rintro i t1 m₁ news₁ hp1 tk1 I1 oI hi1 ⟨o1, kvs1, rfl, hd2, hf2, hm⟩ hoff hI F1 N1
    have F2 := fr_hasx F1 hm
    clear F1 F9 N9 hd1 hf1
    have hlt : i < (mark - above).toNat := by omega
    have hle : LenLe (newD σ.fr above.toNat i) i := newD_len σ.fr above.toNat i
    have hz : kvs1.length ≤ 1000 := by rw [← hf2.length]; exact Nat.le_trans hle (by omega)
    have hne := neN (hoff _ (List.Mem.head _))
    dsimp only at hne
    have e7 : σ.fr.getD (above + 1 + (i : Int) - 1).toNat 0 = σ.fr.getD (above.toNat + i) 0 := by congr 1; omega
    have e6 : above + 1 + (i : Int) = ((above.toNat + i + 1 : Nat) : Int) := by omega
    k_steps
    rename Fr _ _ _ _ => F3
    rename News _ _ _ _ => N3
    rename Obj.IsDictOf _ _ _ => hd3
    rw [e7, e6] at hd3
    refine TurnEnd.intro F3 (fun p hp => N3 p hp) (off_cons hoff) ⟨_, _, rfl, hd3, flat_stored hf2, rfl, rfl, trivial⟩
  · rintro m₁ news₁ hp1 tk1 ⟨o1, kvs1, rfl, hd2, hf2, hm⟩ F1 N1
    have F2 := fr_has F1 hm
    clear F1 F9 N9 hd1 hf1
    rw [e9] at hf2
    k_steps
    dsimp only
    rename Fr _ _ _ _ => F3
    rename News _ _ _ _ => N3
    refine hret _ _ _ _ _ (N3 _ (.head _)).1 hd2 hf2 (fresh_of kept' (N3 _ (.head _)).2.2 ?_) lo1 (kept_nil (kept_of F3 kept') (fun p hp => (hled p hp).1) (fun p hp => (N3 p (.tail _ hp)).1))
    intro q
    simp only [List.map_cons, List.map_nil, List.mem_cons, List.not_mem_nil, or_false] at q
    rcases q with q | q | q
    · exact Nat.ne_of_lt l9.1 q.symm
    · exact Nat.ne_of_lt l9.2.1 q.symm
    · exact Nat.ne_of_lt l9.2.2 q.symm
end Mine
end
section
namespace Mine
theorem top_off_63 : True := by
  w_top off
  trivial
/-- the heap's first n places -/
def trunc (h : Heap) (n : Nat) : Heap := ⟨(h.objs.toList.take n).toArray, h.life⟩
theorem trunc_size (h : Heap) (n : Nat) : (trunc h n).objs.size ≤ n := by
  show (h.objs.toList.take n).toArray.size ≤ n
  rw [List.size_toArray, List.length_take]; omega
theorem trunc_get {h : Heap} {n a : Nat} (ha : a < n) : (trunc h n).get? a = h.get? a := by
  unfold Heap.get? trunc
  have e : ((h.objs.toList.take n).toArray)[a]? = h.objs[a]? := by
    rw [List.getElem?_toArray, List.getElem?_take_of_lt ha, Array.getElem?_toList]
  simp only [e]
theorem trunc_of {h : Heap} {n a : Nat} {o : Obj} (e : (trunc h n).get? a = some o) : h.get? a = some o := by
  have : a < n := Nat.lt_of_lt_of_le (Heap.lt_size e) (trunc_size h n)
  rw [trunc_get this] at e; exact e
/-- all that stood before the frame and is not in the smaller ledger is frozen -/
theorem rebase {g h : Heap} {L : Addr} {m : Str → Option Value} {nx led : List (Addr × Obj)} (F : Fr g L h m) (N : News g L h nx) (hs : ∀ p ∈ led, p ∈ nx) :
    ∃ b, g.StaysIn b ∧ Fr b L h m ∧ News b L h led ∧ (∀ a o, h.get? a = some o → a < L → a ∉ led.map (·.1) → b.get? a = some o) := by
  have hg : ∀ a o, g.get? a = some o → a < L := fun a o e => Nat.lt_of_lt_of_le (Heap.lt_size e) F.above
  refine ⟨hideAll (trunc h L) (led.map (·.1)), fun a o e => hideAll_get _ (by rw [trunc_get (hg a o e)]; exact F.keep a o e) fun q => ?_, ⟨F.ns, fun a o e => trunc_of (of_hideAll _ e), ?_⟩, fun p hp => ⟨(N p (hs p hp)).1, (N p (hs p hp)).2.1, hideAll_none _ (List.mem_map_of_mem hp)⟩, fun a o e hl hn => hideAll_get _ (by rw [trunc_get hl]; exact e) hn⟩
  · obtain ⟨p, hp, rfl⟩ := List.mem_map.mp q
    rw [(N p (hs p hp)).2.2] at e; cases e
  · rw [hideAll_size]; exact trunc_size h L
/-- back to the larger ledger -/
theorem unbase {g b h h' : Heap} {L : Addr} {m m' : Str → Option Value} {nx led' : List (Addr × Obj)} {A : List Addr} (F : Fr g L h m) (N : News g L h nx) (hlt : ∀ p ∈ nx, p.1 < L) (st : g.StaysIn b) (k : ∀ a o, h.get? a = some o → a < L → a ∉ A → b.get? a = some o)
    (F' : Fr b L h' m') (N' : News b L h' led') : Fr g L h' m' ∧ News g L h' (mix led' A nx) := by
  refine ⟨⟨F'.ns, fun a o e => F'.keep a o (st a o e), F.above⟩, fun p hp => ?_⟩
  rcases List.mem_append.mp hp with hp | hp
  · refine ⟨(N' p hp).1, (N' p hp).2.1, ?_⟩
    cases q : g.get? p.1 with
    | none => rfl
    | some o => have := st _ _ q; rw [(N' p hp).2.2] at this; cases this
  · obtain ⟨hr, hn⟩ := List.mem_filter.mp hp
    exact ⟨F'.keep _ _ (k _ _ (N p hr).1 (hlt p hr) (of_decide_eq_true hn)), (N p hr).2⟩
section
variable {prog : Program} {w : World} {A : Around} {E : Value → Shared → Prop} {s : Shared} {h₀ : Heap} {L D : Addr} {m : Str → Option Value} {news : List (Addr × Obj)} {l : List Value} {ns : List Int} {n : Nat}
theorem len_led {Q : Value → Shared → Prop} (N : News h₀ L s.heap news) (hm : (D, listOf l.toArray n) ∈ news) (hi : IntsAre l ns) (hf : ns.length ≤ 2000)
    (h : Q (.int (ns.length : Nat) (s.toks + 1)) { s with toks := s.toks + 1 + 1 }) : wpAny (model prog w) A (call (.builtin "len") [.ref D]) Q E s :=
  len_ints_fit (PySem.IsL.isList (n := n) (N _ hm).1) hi (by omega) h
theorem len_eq {k : Nat} {Q : Value → Shared → Prop} (N : News h₀ L s.heap news) (hm : (D, listOf l.toArray n) ∈ news) (hi : IntsAre l ns) (hl : ns.length = k) (hf : k ≤ 2000)
    (h : Q (.int (k : Nat) (s.toks + 1)) { s with toks := s.toks + 1 + 1 }) : wpAny (model prog w) A (call (.builtin "len") [.ref D]) Q E s := by
  subst hl; exact len_led N hm hi hf h
theorem pop_led {ws : List Value} {v : Value} {news' : List (Addr × Obj)} {Q : Value → Shared → Prop} (F : Fr h₀ L s.heap m) (N : News h₀ L s.heap news) (U : Upd D (listOf (ws ++ [v]).toArray n) (listOf ws.toArray (n + 1)) news news') (hz : ws.length ≤ 2000)
    (h : ∀ h', Fr h₀ L h' m → News h₀ L h' news' → Q v { s with heap := h' }) : wpAny (model prog w) A (call (.builtin "list.pop") [.ref D]) Q E s :=
  kl_pop F N (kpa_last _ _) U (by rw [sizeLine_eq]; simp only [List.length_append, List.length_cons, List.length_nil]; omega) h
theorem truthy_cons {v : Value} {ws : List Value} {Q : Bool → Shared → Prop} (N : News h₀ L s.heap news) (hm : (D, listOf (v :: ws).toArray n) ∈ news) (hz : ws.length ≤ 2000)
    (h : Q true { s with toks := s.toks + 1 + 1 }) : wpAny (model prog w) A (truthy (.ref D)) Q E s :=
  wpAny_truthy_list (PySem.IsL.isList (n := n) (N _ hm).1) (by simp only [List.size_toArray, List.length_cons]; omega) (by simpa using h)
theorem truthy_nil {Q : Bool → Shared → Prop} (N : News h₀ L s.heap news) (hm : (D, listOf [].toArray n) ∈ news)
    (h : Q false { s with toks := s.toks + 1 + 1 }) : wpAny (model prog w) A (truthy (.ref D)) Q E s :=
  wpAny_truthy_list (PySem.IsL.isList (n := n) (N _ hm).1) (by simp) (by simpa using h)
end
end Mine
end
section
namespace Mine
open PyProof.V PySem.Spec
theorem top_off_64 : True := by
  w_top off
  trivial
theorem ints_unsnoc {vs : List Value} {ns : List Int} {x : Int} (h : IntsAre vs (ns ++ [x])) : ∃ ws t, vs = ws ++ [.int x t] ∧ IntsAre ws ns := by
  induction ns generalizing vs with
  | nil =>
    cases h with
    | cons _ t h => cases h; exact ⟨[], t, rfl, .nil⟩
  | cons n r ih =>
    cases h with
    | cons _ t h =>
      obtain ⟨ws, u, rfl, hw⟩ := ih h
      exact ⟨.int n t :: ws, u, rfl, .cons n t hw⟩
local macro_rules | `(tactic| walk_at "setItem ref int") => `(tactic| (k_here; k_dflt (refine' dset ?F ?N ?U ?d ?z ?_; (case F => k_asm); (case N => k_asm); (case U => k_updF); (case d => k_asm); (case z => omega); k_whole); intro h' o' F' N' hd'; (try dsimp only at N'); (try k_sweep)))
local macro_rules | `(tactic| walk_at "setItem ref int int") => `(tactic| (k_here; k_dflt (refine' dset ?F ?N ?U ?d ?z ?_; (case F => k_asm); (case N => k_asm); (case U => k_updF); (case d => k_asm); (case z => omega); k_whole); intro h' o' F' N' hd'; (try dsimp only at N'); (try k_sweep)))
local macro_rules | `(tactic| walk_at "compareOp NotIn int ref") => `(tactic| (k_here; k_dflt (first
  | (refine' dnotin_none ?N ?m ?d ?l ?v ?_; (case N => k_asm); (case m => k_mem); (case d => k_asm); (case l => k_asm); (case v => k_asm); k_whole)
  | (refine' dnotin_some ?N ?m ?d ?l ?v ?_; (case N => k_asm); (case m => k_mem); (case d => k_asm); (case l => k_asm); (case v => k_asm); k_whole))))
local macro_rules | `(tactic| walk_at "subscriptTail") => `(tactic| (k_here; (with_reducible show wpAny _ _ (subscriptTail _ _ (Value.ref _) (Value.int _ _)) _ _ _); k_dflt (refine' ditem ?N ?m ?d ?v ?_ ?hs; (case N => k_asm); (case m => k_mem); (case d => k_asm); (case v => first | k_asm | exact valueAt_same _ _ _); (case hs => with_unfolding_all rfl); k_whole)))
local macro_rules | `(tactic| walk_at "getMethod ref") => `(tactic| (k_here; k_dflt (refine' dgetm ?N ?m ?d ?_; (case N => k_asm); (case m => k_mem); (case d => k_asm); k_whole)))
local macro_rules | `(tactic| walk_at "call builtin:dict.get") => `(tactic| (k_here; k_dflt (first
  | (refine' dget_some ?N ?m ?d ?l ?v ?_; (case N => k_asm); (case m => k_mem); (case d => k_asm); (case l => k_asm); (case v => k_asm); k_whole)
  | (refine' dget_none ?N ?m ?d ?l ?v ?_; (case N => k_asm); (case m => k_mem); (case d => k_asm); (case l => k_asm); (case v => k_asm); k_whole))))
local macro_rules | `(tactic| walk_at "delItem ref int") => `(tactic| (k_here; k_dflt (refine' ddel ?F ?N ?U ?d ?z ?v ?_; (case F => k_asm); (case N => k_asm); (case U => k_updF); (case d => k_asm); (case z => omega); (case v => k_asm); k_whole); intro h' o' F' N' hd'; (try dsimp only at N'); (try k_sweep)))
local macro_rules | `(tactic| walk_at "call builtin:list.pop") => `(tactic| (k_here; (with_reducible show wpAny _ _ (call (Value.builtin _) [Value.ref _]) _ _ _); k_dflt (refine' pop_led ?F ?N ?U ?z ?_; (case F => k_asm); (case N => k_asm); (case U => k_upd); (case z => omega); k_whole); intro h' F' N'; (try k_sweep)))
local macro_rules | `(tactic| walk_at "call builtin:len") => `(tactic| (k_here; (with_reducible show wpAny _ _ (call (Value.builtin "len") [Value.ref _]) _ _ _); k_dflt (refine' len_eq ?N ?m ?i ?l ?f ?_; (case N => k_asm); (case m => k_mem); (case i => k_asm); (case l => k_asm); (case f => omega); k_whole)))
local macro_rules | `(tactic| walk_at "truthy ref") => `(tactic| (k_here; k_dflt (first
  | (refine' truthy_nil ?N ?m ?_; (case N => k_asm); (case m => k_mem); k_whole)
  | (refine' truthy_cons ?N ?m ?z ?_; (case N => k_asm); (case m => k_mem); (case z => omega); k_whole))))
local macro_rules | `(tactic| walk_at "exec While Compare cons nil") => `(tactic| (with_reducible refine stop ?_))
/-- where the rests of a log's frames are taken out: the states between -/
def DropJ (w : World) (σ : Ix) (L : Addr) : Nat → (Str → Option Value) → List (Addr × Obj) → Prop := fun n m nx =>
  ∃ k kv, k ≤ σ.fr.length ∧ σ.last ≤ k ∧ n = k - σ.last.toNat ∧ IxLed w { σ with fr := σ.fr.take k, kv := kv } nx ∧ (∀ p ∈ nx, p.1 < L) ∧ Has m [(Str.ofString "self", .ref σ.ix)]
theorem drop_led {w : World} {σ : Ix} {fs : List Int} {page : Int} {kv kv' : List (Int × Value)} {nx : List (Addr × Obj)} {ws rws : List Value} {od' dxo : Obj} {n5 rn : Nat}
    (I : IxLed w { σ with fr := fs ++ [page], kv := kv } nx) (hws : IntsAre ws fs) (hrws : IntsAre rws (posOf page fs)) (hdd : od'.IsDictOf (intKind Challenge.rw_pb0445_01.row.prog w) kv')
    (hkv : ∀ p, valueAt kv' p = if posOf p fs = [] then none else some (.ref (σ.adr p))) (hlen : kv'.length ≤ σ.cap) (hlast : σ.last ≤ fs.length)
    (hdx : ∃ a b c d e f g h i j x y z, dxo = ixObj w σ.lf σ.dp σ.dc σ.sm σ.last a b c d e f g h i j x y z) :
    IxLed w { σ with fr := fs, kv := kv' } (mix [(σ.ix, instObj 74 σ.dx), (σ.dx, dxo), (σ.lf, listOf ws.toArray n5), (σ.dp, od'), (σ.adr page, listOf rws.toArray rn)] [σ.ix, σ.dx, σ.lf, σ.dp, σ.adr page] nx) := by
  have nd := I.nd
  have hp : posOf page (fs ++ [page]) ≠ [] := by rw [posOf_snoc_eq]; simp
  have hra := I.hrd page hp
  have hoff : ∀ a, a ∉ σ.fixed → a ≠ σ.adr page → a ∉ [σ.ix, σ.dx, σ.lf, σ.dp, σ.adr page] := fun a ha hb q => ha (by
    simp only [Ix.fixed, List.mem_cons, List.not_mem_nil, or_false] at q ⊢
    rcases q with q | q | q | q | q
    · exact .inl q
    · exact .inr (.inl q)
    · exact .inr (.inr (.inl q))
    · exact .inr (.inr (.inr (.inl q)))
    · exact absurd q hb)
  have hdcn : σ.dc ∉ [σ.ix, σ.dx, σ.lf, σ.dp, σ.adr page] := by
    simp only [Ix.fixed, List.nodup_cons, List.mem_cons, List.not_mem_nil, or_false, not_or] at nd hra
    obtain ⟨⟨n1, n2, n3, n4⟩, ⟨n5, n6, n7⟩, ⟨n8, n9⟩, n10, _⟩ := nd
    simp only [List.mem_cons, List.not_mem_nil, or_false, not_or]
    exact ⟨fun e => n4 e.symm, fun e => n7 e.symm, fun e => n9 e.symm, fun e => n10 e.symm, fun e => hra.2.2.2.2 e.symm⟩
  have hup : ∀ p, posOf p fs ≠ [] → posOf p (fs ++ [page]) ≠ [] := fun p h => by rw [posOf_snoc]; simp [h]
  obtain ⟨oc, kc, hdc, hdc2, hdc3⟩ := I.hdc
  refine ⟨mix_l (by k_mem), ?_, ⟨ws, n5, mix_l (by k_mem), hws⟩, ⟨od', mix_l (by k_mem), hdd⟩, hkv, ?_, ⟨oc, kc, mix_r hdc hdcn, hdc2, hdc3⟩, I.lo1, I.lo2, I.nd, fun p h => I.hrd p (hup p h), fun p q h1 h2 h3 => I.inj p q h1 (hup p h2) (hup q h3), hlen, ?_, I.hc3, ⟨I.hl.1, hlast⟩⟩
  · obtain ⟨a, b, c, d, e, f, g, h, i, j, x, y, z, rfl⟩ := hdx
    exact ⟨a, b, c, d, e, f, g, h, i, j, x, y, z, mix_l (by k_mem)⟩
  · intro p h
    by_cases e : p = page
    · subst e
      exact ⟨rws, rn, mix_l (by k_mem), hrws⟩
    · obtain ⟨v1, n1, hm, hi⟩ := I.hrow p (hup p h)
      have hi' : IntsAre v1 (posOf p (fs ++ [page])) := hi
      rw [posOf_snoc_ne _ (fun q => e q.symm)] at hi'
      exact ⟨v1, n1, mix_r hm (hoff _ (I.hrd p (hup p h)) (I.inj p page e (hup p h) hp)), hi'⟩
  · have := I.hc2
    have h2 : (fs ++ [page]).length ≤ σ.cap := this
    rw [List.length_append] at h2
    exact Nat.le_trans (Nat.le_add_right _ _) h2
set_option maxHeartbeats 4000000 in
theorem drop_spec {w : World} {s : Shared} {base : Heap} {loose : List Str} {mean : ExcName → Option Value} {mg mb : Str → Option Value} {Q : Value → Shared → Prop} {σ : Ix} {R : List (Addr × Obj)}
    (X : (hd.heap_39 w.params).In base) (T : Top hd.view_39 loose mean mg mb base) (hk : base.StaysIn s.heap) (O : Owned base s.heap R) (I : IxLed w σ R) (hcap : σ.cap ≤ 500)
    (hret : ∀ kv' R' h' tk', IxLed w { σ with fr := σ.fr.take σ.last.toNat, kv := kv' } R' → Next base s.heap h' R R' → Q .none { s with heap := h', toks := tk' }) :
    wpAny (model Challenge.rw_pb0445_01.row.prog w) (Aro 600 6000) (call (.ref 57) [.ref σ.ix]) Q (fun _ _ => False) s := by
  revert X
  k_fill
  intro X
  have hl := I.hl
  refine' call_own (binds := [(Str.ofString "self", .ref σ.ix)]) ?k1 ?k2 ?k3 ?k4 ?k6 ?k7 ?k8 ?k9 ?kB ?_ ?c2 ?c3 ?c4 ?c5; (case k1 => k_asm); (case k2 => k_asm); (case k3 => k_asm); (case k4 => k_asm); (case k6 => k_is); (case k7 => k_is); (case k8 => decide); (case k9 => exact BindsTo.of_eq rfl); (case c5 => decide); (case kB => exact locs rfl); (case c2 => exact rfl); (case c3 => exact rfl); (case c4 => exact rfl); (try dsimp only); intro g L' h' F' N' st' X' T' lt' kept' none'
  k_steps
  unfold Stop
  rename Fr _ _ _ _ => F9
  rename News _ _ _ _ => N9
  refine While_inv2 (DropJ w σ L') F9 N9 (n₀ := σ.fr.length - σ.last.toNat) ⟨σ.fr.length, σ.kv, Nat.le_refl _, hl.2, rfl, by rw [List.take_length]; exact I, lt', rfl, trivial⟩ ?_ PassesOwn.never
  clear F9 N9
  rintro n m₁ nx h1 tk1 F1 N1 ⟨k, kv, k1, k2, k3, I1, k4, hm⟩
  have F2 := fr_has F1 hm
  obtain ⟨a, b, c, d, e, f, g0, h0, i0, j, x, y, z, hdx⟩ := I1.hdx
  obtain ⟨vs, n5, hlf, hfr⟩ := I1.hlf
  obtain ⟨od, hdp, hdd⟩ := I1.hdp
  have nd := I1.nd
  simp only [Ix.fixed, List.nodup_cons, List.mem_cons, List.not_mem_nil, or_false, not_or] at nd
  obtain ⟨⟨n1, n2, n3, n4⟩, ⟨n6, n7, n8⟩, ⟨n9, n10⟩, n11, _⟩ := nd
  replace n1 := neN n1; replace n2 := neN n2; replace n3 := neN n3; replace n6 := neN n6; replace n7 := neN n7; replace n9 := neN n9
  have hix := I1.hix
  have hc1 := I1.hc1
  have hc2 := I1.hc2
  have hfl := hfr.length
  dsimp only at hdx hlf hfr hdp hdd n1 n2 n3 n6 n7 n9 hix hc1 hc2 hfl
  by_cases hk0 : (k : Int) = σ.last
  · have N2 : News g L' h1 [(σ.ix, instObj 74 σ.dx), (σ.dx, ixObj w σ.lf σ.dp σ.dc σ.sm σ.last a b c d e f g0 h0 i0 j x y z), (σ.lf, listOf vs.toArray n5)] := fun p hp => N1 p (by
      simp only [List.mem_cons, List.not_mem_nil, or_false] at hp
      rcases hp with rfl | rfl | rfl
      · exact hix
      · exact hdx
      · exact hlf)
    have hkl : (σ.fr.take k).length = k := by rw [List.length_take]; omega
    k_steps
    obtain rfl : k = σ.last.toNat := by omega
    exact hret kv nx h1 _ I1 ((next_of O F1 N1 st' kept' (fun a ha => ha)).sub fun p hp => mix_l hp)
  · obtain ⟨k', rfl⟩ : ∃ k', k = k' + 1 := ⟨k - 1, by omega⟩
    have hkl : k' < σ.fr.length := by omega
    have hsn := take_snoc_get hkl
    generalize σ.fr[k'] = page at hsn
    have hfl2 : (σ.fr.take k').length = k' := by rw [List.length_take]; omega
    rw [hsn] at I1 hfr hfl hc2
    have hp1 : posOf page (σ.fr.take k' ++ [page]) = posOf page (σ.fr.take k') ++ [((σ.fr.take k').length : Int) + 1] := posOf_snoc_eq _
    have hpne : posOf page (σ.fr.take k' ++ [page]) ≠ [] := by rw [hp1]; simp
    have hv : valueAt kv page = some (.ref (σ.adr page)) := by have := I1.hkv page; dsimp only at this; rw [this, if_neg hpne]
    obtain ⟨rvs, rn, hra, hri⟩ := I1.hrow page hpne
    have hrd := I1.hrd page hpne
    simp only [Ix.fixed, List.mem_cons, List.not_mem_nil, or_false, not_or] at hrd
    obtain ⟨r1, r2, r3, r4, r5⟩ := hrd
    replace r1 := neN r1; replace r2 := neN r2; replace r3 := neN r3; replace r4 := neN r4
    dsimp only at hra hri r1 r2 r3 r4
    rw [hp1] at hri
    obtain ⟨ws, tw, rfl, hws⟩ := ints_unsnoc hfr
    obtain ⟨rws, rt, rfl, hrws⟩ := ints_unsnoc hri
    have lo := I1.lo1
    dsimp only at lo
    have hrl := hrws.length
    have hwl := hws.length
    have hrb := posOf_length page (σ.fr.take k')
    have hfl3 : (σ.fr.take k' ++ [page]).length = k' + 1 := by rw [List.length_append, hfl2]; rfl
    have hk5 : k' + 1 ≤ 500 := by simp only [List.length_append, List.length_cons, List.length_nil, hfl2] at hc2; omega
    obtain ⟨bb, bst, F3, N3, bk⟩ := rebase (led := [(σ.ix, instObj 74 σ.dx), (σ.dx, ixObj w σ.lf σ.dp σ.dc σ.sm σ.last a b c d e f g0 h0 i0 j x y z), (σ.lf, listOf (ws ++ [Value.int page tw]).toArray n5), (σ.dp, od), (σ.adr page, listOf (rws ++ [Value.int (((σ.fr.take k').length : Int) + 1) rt]).toArray rn)]) F2 N1 (fun p hp => by
      simp only [List.mem_cons, List.not_mem_nil, or_false] at hp
      rcases hp with rfl | rfl | rfl | rfl | rfl
      · exact hix
      · exact hdx
      · exact hlf
      · exact hdp
      · exact hra)
    have Xb : (hd.heap_39 w.params).In bb := X'.keeps fun b o e => bst b o e
    have Tb : Top hd.view_39 loose mean mg mb bb := T'.keeps fun b o e => bst b o e
    have hvs : (valueAt kv page).isSome = true := by rw [hv]; rfl
    rcases rws with _ | ⟨rv0, rws⟩
    · k_steps
      rename News _ _ _ _ => N9
      rename Fr _ _ _ _ => F9
      rename Obj.IsDictOf _ _ (PySem.without _ _) => hd9
      have hpe : posOf page (σ.fr.take k') = [] := by cases h : posOf page (σ.fr.take k') with
        | nil => rfl
        | cons _ _ => rw [h] at hrws; cases hrws
      obtain ⟨F8, N8⟩ := unbase F2 N1 k4 bst bk F9 N9
      refine ⟨_, _, _, _, _, rfl, F8, N8, ?_, k', _, by omega, by omega, rfl, drop_led I1 hws hrws hd9 ?_ (Nat.le_trans (without_length _ _) hc1) (by omega) ⟨_, _, _, _, _, _, _, _, _, _, _, _, _, rfl⟩, ?_, rfl, trivial⟩
      · omega
      · intro p
        rw [valueAt_without]
        by_cases hpp : p = page
        · rw [if_pos hpp, hpp, hpe, if_pos rfl]
        · rw [if_neg hpp]
          have := I1.hkv p
          dsimp only at this
          rw [posOf_snoc_ne _ (fun q => hpp q.symm)] at this
          exact this
      · intro p hp
        rcases List.mem_append.mp hp with hp | hp
        · simp only [List.mem_cons, List.not_mem_nil, or_false] at hp
          rcases hp with rfl | rfl | rfl | rfl | rfl
          · have := k4 _ hix; exact this
          · have := k4 _ hdx; exact this
          · have := k4 _ hlf; exact this
          · have := k4 _ hdp; exact this
          · have := k4 _ hra; exact this
        · exact k4 p (List.mem_filter.mp hp).1
    · have hrws5 : rws.length ≤ 2000 := by simp only [List.length_cons] at hrl; omega
      have hrws6 : (rv0 :: rws).length ≤ 2000 := by simp only [List.length_cons] at hrl ⊢; omega
      k_steps
      rename News _ _ _ _ => N9
      rename Fr _ _ _ _ => F9
      have hpe : posOf page (σ.fr.take k') ≠ [] := fun h => by rw [h] at hrws; cases hrws
      obtain ⟨F8, N8⟩ := unbase F2 N1 k4 bst bk F9 N9
      refine ⟨_, _, _, _, _, rfl, F8, N8, ?_, k', kv, by omega, by omega, rfl, drop_led I1 hws hrws hdd ?_ hc1 (by omega) ⟨_, _, _, _, _, _, _, _, _, _, _, _, _, rfl⟩, ?_, rfl, trivial⟩
      · omega
      · intro p
        have := I1.hkv p
        dsimp only at this
        rw [this]
        by_cases hpp : p = page
        · rw [hpp, if_neg hpne, if_neg hpe]
        · rw [posOf_snoc_ne _ (fun q => hpp q.symm)]
      · intro p hp
        rcases List.mem_append.mp hp with hp | hp
        · simp only [List.mem_cons, List.not_mem_nil, or_false] at hp
          rcases hp with rfl | rfl | rfl | rfl | rfl
          · have := k4 _ hix; exact this
          · have := k4 _ hdx; exact this
          · have := k4 _ hlf; exact this
          · have := k4 _ hdp; exact this
          · have := k4 _ hra; exact this
        · exact k4 p (List.mem_filter.mp hp).1
end Mine
end
section
namespace Mine
open PyProof.V PySem.Spec
theorem top_off_65 : True := by
  w_top off
  trivial
theorem flat_eqv {v : Value} {d : PyData} (f : Flat v d) : PyData.eqv d d = true := by
  obtain ⟨as, p⟩ : ∃ as, Reads {} v d as := ⟨_, f {}⟩
  cases p with
  | none => rfl
  | bool b => simp [PyData.eqv]
  | int b u => simp [PyData.eqv]
  | str b u => simp [PyData.eqv]
  | list => exact (Flat.notRef f _ rfl).elim
  | tuple => exact (Flat.notRef f _ rfl).elim
  | dict => exact (Flat.notRef f _ rfl).elim
theorem keys_of {kvs : List (Int × Value)} {D : List (PyData × PyData)} (f : FlatPairs PyData.int kvs D) : ∀ p ∈ D, ∃ k, k ∈ kvs.map (·.1) ∧ p.1 = .int k := by
  induction f with
  | nil => exact fun _ h => nomatch h
  | @cons k v d kvs D _ _ ih =>
    intro p hp
    rcases List.mem_cons.mp hp with rfl | hp
    · exact ⟨k, .head _, rfl⟩
    · obtain ⟨k', h1, h2⟩ := ih p hp
      exact ⟨k', .tail _ h1, h2⟩
theorem lookup_own {kvs : List (Int × Value)} {D : List (PyData × PyData)} (f : FlatPairs PyData.int kvs D) : (kvs.map (·.1)).Nodup → ∀ p ∈ D, lookup p.1 D = some p.2 ∧ PyData.eqv p.2 p.2 = true := by
  induction f with
  | nil => exact fun _ _ h => nomatch h
  | @cons k v d kvs D g f ih =>
    intro nd p hp
    rw [List.map_cons, List.nodup_cons] at nd
    rcases List.mem_cons.mp hp with rfl | hp
    · refine ⟨?_, flat_eqv g⟩
      show (if same (PyData.int k) (PyData.int k) then some d else lookup (PyData.int k) D) = some d
      rw [same_int, decide_eq_true rfl]; rfl
    · obtain ⟨k', h1, h2⟩ := keys_of f p hp
      have hne : ¬ k = k' := fun e => nd.1 (e ▸ h1)
      have := ih nd.2 p hp
      refine ⟨?_, this.2⟩
      show (if same (PyData.int k) p.1 then some d else lookup p.1 D) = some p.2
      rw [h2, same_int, decide_eq_false hne, ← h2]
      exact this.1
theorem rows_of {Db : List (PyData × PyData)} : ∀ {Da : List (PyData × PyData)}, (∀ p ∈ Da, lookup p.1 Db = some p.2 ∧ PyData.eqv p.2 p.2 = true) → KeqRows Db Da true
  | [], _ => .nil
  | (k, v) :: r, h => by
    have h1 := h (k, v) (.head _)
    have := KeqRows.hit (v := v) h1.1 (rows_of fun p hp => h p (.tail _ hp))
    rw [h1.2, Bool.true_and] at this
    exact this
theorem dict_any {prog prog' : Program} {w w' : World} {o : Obj} {kvs : List (Int × Value)} (h : o.IsDictOf (intKind prog w) kvs) : o.IsDictOf (intKind prog' w') kvs := by
  obtain ⟨es, ep, h1, h2, h3, h4, h5⟩ := h
  refine ⟨es, ep, h1, h2, h3, ?_, h5⟩
  clear h1 h2 h3 h5
  generalize es.toList = l at h4 ⊢
  induction h4 with
  | nil => exact .nil
  | cons a b _ ih => exact .cons a b ih
section
variable {s : Shared} {A : Around} {a b : Addr} {oa ob : Obj} {ka kb : List (Int × Value)} {D : List (PyData × PyData)} {prog : Program} {w : World}
theorem eq_dicts {E Q : Value → Shared → Prop} (ha : s.heap.get? a = some oa) (hb : s.heap.get? b = some ob) (da : oa.IsDictOf (intKind prog w) ka) (db : ob.IsDictOf (intKind prog w) kb) (fa : FlatPairs PyData.int ka D) (fb : FlatPairs PyData.int kb D)
    (la : (a == sysModules) = false) (lb : (b == sysModules) = false) (hu : A.units < cLine) (h : Q (.bool true) s) : wpAny (model prog w) A (compareOp .Eq (.ref a) (.ref b)) Q E s := by
  have nd : (ka.map (·.1)).Nodup := let ⟨_, _, _, _, _, _, n⟩ := da; n
  exact keq_tabs (knd := intKind prog w) same_int (TabAt.ofObj la ha da fa) (TabAt.ofObj lb hb db fb) rfl hu (rows_of (lookup_own fa nd)) h
theorem rc_dicts (ha : s.heap.get? a = some oa) (hb : s.heap.get? b = some ob) (da : oa.IsDictOf (intKind prog w) ka) (db : ob.IsDictOf (intKind prog w) kb) (fa : FlatPairs PyData.int ka D) (fb : FlatPairs PyData.int kb D)
    (la : (a == sysModules) = false) (lb : (b == sysModules) = false) (hu : A.units < cLine) : SeqAt.EqAt A s (.ref a) (.ref b) true := by
  by_cases e : a = b
  · rw [e]; exact SeqAt.EqAt.same _
  · exact SeqAt.EqAt.of_refs e fun prog' w' E Q q => eq_dicts (prog := prog') (w := w') ha hb (dict_any da) (dict_any db) fa fb la lb hu q
theorem rc_tups {x y : Int} {t1 t2 u1 u2 : Tok} {n n' : Nat} (ha : s.heap.get? a = some (tupObj [.int x t1, .int y t2] n)) (hb : s.heap.get? b = some (tupObj [.int x u1, .int y u2] n')) (hu : A.units < cLine) : SeqAt.EqAt A s (.ref a) (.ref b) true := by
  by_cases e : a = b
  · rw [e]; exact SeqAt.EqAt.same _
  · refine SeqAt.EqAt.of_refs e ?_
    have := SeqAt.RcAt.tuples (A := A) (s := s) (l := a) (b := b) (items := #[.int x t1, .int y t2]) (items2 := #[.int x u1, .int y u2]) (e := fun _ => true) ⟨_, ha, rfl, n, rfl⟩ ⟨_, hb, rfl, n', rfl⟩ hu (fun j h1 h2 => by
      have h1' : j < 2 := h1
      rcases j with _ | _ | j
      · have := SeqAt.EqAt.int_int (A := A.in1) (s := s) x t1 x u1; rwa [beq_self_eq_true] at this
      · have := SeqAt.EqAt.int_int (A := A.in1) (s := s) y t2 y u2; rwa [beq_self_eq_true] at this
      · omega)
    exact this
end
end Mine
end
section
namespace Mine
theorem top_off_66 : True := by
  w_top off
  trivial
theorem tup_loop {prog : Program} {w : World} {A : Around} {E : Value → Shared → Prop} {s : Shared} {env : Env} {h₀ : Heap} {x : Str} {body : List Stmt} {Q : Flow → Shared → Prop} {ax : Addr} {items : List Value} {n0 : Nat} {m₀ : Str → Option Value} {news : List (Addr × Obj)}
    (J : Nat → (Str → Option Value) → List (Addr × Obj) → Prop) (hJx : ∀ i m nx, J i m nx → (ax, ({ cls := .type "tuple", data := .seq items.toArray n0 } : Obj)) ∈ nx)
    (hh : A.handled = none) (F : Fr h₀ env.locals s.heap m₀) (N : News h₀ env.locals s.heap news) (hJ : J 0 m₀ news)
    (turn : ∀ (i : Nat) v m₁ news₁ h tk I oI, items[i]? = some v → J i m₁ news₁ → (∀ p ∈ news₁, p.1 ≠ I) → s.heap.objs.size ≤ I → Fr h₀ env.locals h (fun y => if y = x then some v else m₁ y) → News h₀ env.locals h ((I, oI) :: news₁) →
      wpAny (model prog w) A (execs body env) (TurnEnd h₀ env.locals I oI (J (i + 1)) s) (fun _ _ => False) { s with heap := h, toks := tk })
    (done : ∀ m₁ news₁ h tk, J items.length m₁ news₁ → Fr h₀ env.locals h m₁ → News h₀ env.locals h news₁ → Q .next { s with heap := h, toks := tk }) :
    wpAny (model prog w) A (pyIter (.ref ax)) (fun it s₂ => LoopAtV prog w A h₀ env x body Q E it s₂) E s := by
  have hax := N _ (hJx _ _ _ hJ)
  have ht : IsTup s.heap ax items.toArray := ⟨_, hax.1, rfl, n0, rfl⟩
  have hne : ax ≠ s.heap.objs.size := Nat.ne_of_lt (Heap.lt_size hax.1)
  refine iter_tuple ht ?_
  have W := Walks.tuple (prog := prog) (w := w) hh s.heap.objs.size ax hne items.toArray
  have hsz : items.toArray.size = items.length := List.size_toArray
  rw [hsz] at W
  refine ⟨_, _, _, items.length, _, _, m₀, news, J, rfl, W, ?_, ?_, ?_, ⟨⟨_, Heap.get?_push_size _ rfl, rfl, rfl⟩, ⟨_, Heap.get?_push_of_some _ hax.1, rfl, n0, rfl⟩⟩, F.push _, (fun p hp => ⟨Heap.get?_push_of_some _ (N p hp).1, (N p hp).2⟩), hJ, ?_, ?_⟩
  · intro hm
    rcases List.mem_cons.mp hm with e | hm
    · exact absurd F.ns.lt (e ▸ Nat.lt_irrefl _)
    · exact hax.2.1 (List.mem_singleton.mp hm).symm
  · intro c hc
    rw [List.mem_singleton.mp hc]
    exact next_is_new F
  · intro p hp hI
    exact absurd (Heap.lt_size (N p hp).1) ((List.mem_singleton.mp hI) ▸ Nat.lt_irrefl _)
  · rintro i v m₁ news₁ s₁ own ⟨hh', tk', rfl⟩ hi hv hJ' hoff hown hat hall hst F₁ N₁
    obtain ⟨oI, hoI⟩ : ∃ oI, hh'.get? s.heap.objs.size = some oI := let ⟨o, ho, _⟩ := hst.1; ⟨o, ho⟩
    have hm : (s.heap.objs.size, oI) ∈ own := hall _ (.head _) (next_is_new F) oI hoI
    have hx := (N₁ _ (List.mem_append_right _ (hJx _ _ _ hJ'))).1
    have hone : ∀ p ∈ own, p = (s.heap.objs.size, oI) ∨ p = (ax, ({ cls := .type "tuple", data := .seq items.toArray n0 } : Obj)) := fun p hp => by
      have e2 := hat p hp
      rcases List.mem_cons.mp (hown p hp) with e1 | e1
      · rw [e1] at e2
        have e3 : some oI = some p.2 := hoI.symm.trans e2
        exact .inl (Prod.ext e1 (Option.some.inj e3).symm)
      · have e1 := List.mem_singleton.mp e1
        rw [e1] at e2
        have e3 := hx.symm.trans e2
        exact .inr (Prod.ext e1 (Option.some.inj e3).symm)
    have hv' : items[i]? = some v := by simpa using hv
    refine wpAny_mono (turn i v m₁ news₁ hh' tk' s.heap.objs.size oI hv' hJ' (fun p hp e => hoff p hp (List.mem_singleton.mpr e)) (Nat.le_refl _) F₁ (fun p hp => (List.mem_cons.mp hp).elim (fun e => e ▸ N₁ _ (List.mem_append_left _ hm)) fun h => N₁ p (List.mem_append_right _ h))) (fun f s₂ q => ?_) fun _ _ e => e.elim
    obtain ⟨hf, h', tk2, m₂, news₂, rfl, F₂, N₂, hn, hJ₂⟩ := q
    have fin : LoopStepU h₀ env.locals [s.heap.objs.size] own (J (i + 1)) { s with heap := hh', toks := tk' } .next { s with heap := h', toks := tk2 } :=
      ⟨rfl, h', tk2, m₂, news₂, rfl, F₂, fun p hp => (List.mem_append.mp hp).elim (fun h => by
        rcases hone p h with e | e
        · rw [e]; exact N₂ _ (.head _)
        · rw [e]; exact N₂ _ (.tail _ (hJx _ _ _ hJ₂))) fun h => N₂ p (.tail _ h), fun p hp q => hn p hp (List.mem_singleton.mp q), hJ₂⟩
    rcases hf with rfl | rfl
    · exact .next fin
    · exact .cont fin
  · rintro h' tk m' news' F' N' _ hJ'
    exact done m' news' h' tk hJ' F' N'
end Mine
end
section
namespace Mine
open PyProof.V PySem.Spec
theorem top_off_68 : True := by
  w_top off
  trivial
section
variable {w : World} {s : Shared} {base g : Heap} {loose : List Str} {mean : ExcName → Option Value} {mg mb : Str → Option Value} {A : Around} {L : Addr} {m : Str → Option Value} {news R : List (Addr × Obj)} {σ : Ix} {Q E : Value → Shared → Prop}
theorem kept_news {h h' : Heap} (N : News g L h news) (k : Kept [] h h') : News g L h' news := fun p hp => ⟨k _ _ (N p hp).1 (fun q => nomatch q), (N p hp).2⟩
theorem kept_fr {h h' : Heap} (F : Fr g L h m) (k : Kept [] h h') : Fr g L h' m := fr_after (l := []) F (fun _ q => nomatch q) k
theorem owned_of {h : Heap} (N : News g L h news) (hb : base.StaysIn g) (hs : ∀ p ∈ R, p ∈ news) : Owned base h R := fun p hp => ⟨(N p (hs p hp)).1, by
  cases q : base.get? p.1 with
  | none => rfl
  | some o => have := hb _ _ q; rw [(N p (hs p hp)).2.2] at this; cases this⟩
theorem news_new {h h' : Heap} {fd : Addr} {o : Obj} (F : Fr g L h m) (N : News g L h news) (k : Kept [] h h') (hf : h.get? fd = none) (ho : h'.get? fd = some o) : News g L h' ((fd, o) :: news) := by
  intro p hp
  rcases List.mem_cons.mp hp with rfl | hp
  · obtain ⟨oL, es, ep, hL, _⟩ := F.ns
    refine ⟨ho, fun e => ?_, ?_⟩
    · have e' : fd = L := e
      rw [e', hL] at hf; cases hf
    · cases q : g.get? fd with
      | none => rfl
      | some o => rw [F.keep _ _ q] at hf; cases hf
  · exact kept_news N k p hp
theorem frame_use {page mark : Int} {t u : Tok} (F : Fr g L s.heap m) (N : News g L s.heap news) (X : (hd.heap_39 w.params).In base) (T : Top hd.view_39 loose mean mg mb base) (hb : base.StaysIn g) (I : IxLed w σ R) (hs : ∀ p ∈ R, p ∈ news) (hcap : σ.cap ≤ 500) (h1 : 0 ≤ mark) (h2 : mark ≤ 1000)
    (hh : A.handled = none) (hd' : A.depth ≤ 600) (hu : A.units ≤ 6000)
    (h : ∀ td h' tk', Fr g L h' m → News g L h' news → Q (.int (lastIn page (σ.fr.take mark.toNat)) td) { s with heap := h', toks := tk' }) : wpAny (model Challenge.rw_pb0445_01.row.prog w) A (call (.ref 64) [.ref σ.ix, .int page t, .int mark u]) Q E s :=
  aro 600 6000 (frame_spec (Q := Q) X T (fun b o e => F.keep b o (hb b o e)) (owned_of N hb hs) I hcap h1 h2 fun td h' tk' k => h td h' tk' (kept_fr F k) (kept_news N k)) hh hd' hu
theorem last_use {page mark : Int} {t u : Tok} {lp : Addr} {vs : List Value} {n : Nat} {ps : List Int} (F : Fr g L s.heap m) (N : News g L s.heap news) (X : (hd.heap_39 w.params).In base) (T : Top hd.view_39 loose mean mg mb base) (hb : base.StaysIn g) (hm : (lp, listOf vs.toArray n) ∈ news) (hi : IntsAre vs ps) (hl : ps.length ≤ 1000) (h1 : 0 ≤ mark) (h2 : mark ≤ 1000)
    (hh : A.handled = none) (hd' : A.depth ≤ 600) (hu : A.units ≤ 6000)
    (h : ∀ td h' tk', Fr g L h' m → News g L h' news → Q (.int (lastIn page (ps.take mark.toNat)) td) { s with heap := h', toks := tk' }) : wpAny (model Challenge.rw_pb0445_01.row.prog w) A (call (.ref 99) [.ref lp, .int page t, .int mark u]) Q E s :=
  aro 600 6000 (last_spec (Q := Q) X T (fun b o e => F.keep b o (hb b o e)) (owned_of (R := [(lp, listOf vs.toArray n)]) N hb (fun p hp => by rw [List.mem_singleton.mp hp]; exact hm)) hi hl h1 h2 fun td h' tk' k => h td h' tk' (kept_fr F k) (kept_news N k)) hh hd' hu
theorem newest_use {above mark : Int} {t u : Tok} (F : Fr g L s.heap m) (N : News g L s.heap news) (X : (hd.heap_39 w.params).In base) (T : Top hd.view_39 loose mean mg mb base) (hb : base.StaysIn g) (I : IxLed w σ R) (hs : ∀ p ∈ R, p ∈ news) (hcap : σ.cap ≤ 500) (h1 : 0 ≤ above) (h2 : above ≤ mark) (h3 : mark ≤ σ.fr.length)
    (hh : A.handled = none) (hd' : A.depth ≤ 600) (hu : A.units ≤ 6000)
    (h : ∀ fd o kvs h' tk', Fr g L h' m → News g L h' ((fd, o) :: news) → o.IsDictOf (intKind Challenge.rw_pb0445_01.row.prog w) kvs → FlatPairs PyData.int kvs (newD σ.fr above.toNat (mark - above).toNat) → (fd == sysModules) = false → Q (.ref fd) { s with heap := h', toks := tk' }) : wpAny (model Challenge.rw_pb0445_01.row.prog w) A (call (.ref 71) [.ref σ.ix, .int above t, .int mark u]) Q E s :=
  aro 600 6000 (newest_spec (Q := Q) X T (fun b o e => F.keep b o (hb b o e)) (owned_of N hb hs) I hcap h1 h2 h3 fun fd o kvs h' tk' ho hd hf hn lo k => h fd o kvs h' tk' (kept_fr F k) (news_new F N k hn ho) hd hf lo) hh hd' hu
theorem lawnewest_use {above mark : Int} {t u : Tok} {lp : Addr} {vs : List Value} {n : Nat} {ps : List Int} (F : Fr g L s.heap m) (N : News g L s.heap news) (X : (hd.heap_39 w.params).In base) (T : Top hd.view_39 loose mean mg mb base) (hb : base.StaysIn g) (hm : (lp, listOf vs.toArray n) ∈ news) (hi : IntsAre vs ps) (hl : ps.length ≤ 1000) (h1 : 0 ≤ above) (h2 : above ≤ mark) (h3 : mark ≤ ps.length)
    (hh : A.handled = none) (hd' : A.depth ≤ 600) (hu : A.units ≤ 6000)
    (h : ∀ fd o kvs h' tk', Fr g L h' m → News g L h' ((fd, o) :: news) → o.IsDictOf (intKind Challenge.rw_pb0445_01.row.prog w) kvs → FlatPairs PyData.int kvs (newD ps above.toNat (mark - above).toNat) → (fd == sysModules) = false → Q (.ref fd) { s with heap := h', toks := tk' }) : wpAny (model Challenge.rw_pb0445_01.row.prog w) A (call (.ref 106) [.ref lp, .int above t, .int mark u]) Q E s :=
  aro 600 6000 (lawnewest_spec (Q := Q) X T (fun b o e => F.keep b o (hb b o e)) (owned_of (R := [(lp, listOf vs.toArray n)]) N hb (fun p hp => by rw [List.mem_singleton.mp hp]; exact hm)) hi hl h1 h2 h3 fun fd o kvs h' tk' ho hd hf hn lo k => h fd o kvs h' tk' (kept_fr F k) (news_new F N k hn ho) hd hf lo) hh hd' hu
end
section
variable {s : Shared} {A : Around} {g : Heap} {L a b : Addr} {news : List (Addr × Obj)} {prog : Program} {w : World} {E Q : Value → Shared → Prop}
theorem ne_lists {xs ys : List Value} {ns : List Int} {n n' : Nat} (N : News g L s.heap news) (ha : (a, listOf xs.toArray n) ∈ news) (hb : (b, listOf ys.toArray n') ∈ news) (hi : IntsAre xs ns) (hj : IntsAre ys ns) (hu : A.units + 64 < cLine) (h : Q (.bool false) s) :
    wpAny (model prog w) A (compareOp .NotEq (.ref a) (.ref b)) Q E s :=
  ke_ne_ints (PySem.IsL.isList (n := n) (N _ ha).1) (PySem.IsL.isList (n := n') (N _ hb).1) hi hj hu (by rw [decide_eq_true rfl]; exact h)
theorem ne_told {x : Int} {t u t1 t2 u1 u2 : Tok} {n n' m1 m2 : Nat} {da db ta tb : Addr} {oa ob : Obj} {ka kb : List (Int × Value)} {D : List (PyData × PyData)} {y z : Int}
    (N : News g L s.heap news) (ha : (a, listOf [.int x t, .ref da, .ref ta].toArray n) ∈ news) (hb : (b, listOf [.int x u, .ref db, .ref tb].toArray n') ∈ news) (hda : (da, oa) ∈ news) (hdb : (db, ob) ∈ news)
    (hta : (ta, tupObj [.int y t1, .int z t2] m1) ∈ news) (htb : (tb, tupObj [.int y u1, .int z u2] m2) ∈ news)
    (ia : oa.IsDictOf (intKind prog w) ka) (ib : ob.IsDictOf (intKind prog w) kb) (fa : FlatPairs PyData.int ka D) (fb : FlatPairs PyData.int kb D) (la : (da == sysModules) = false) (lb : (db == sysModules) = false) (hu : A.units + 64 < cLine) (h : Q (.bool false) s) :
    wpAny (model prog w) A (compareOp .NotEq (.ref a) (.ref b)) Q E s := by
  have hu' : A.in1.units < cLine := by show A.units + 1 < cLine; omega
  refine SeqAt.RcNeAt.lists (e := fun _ => true) (PySem.IsL.isList (n := n) (N _ ha).1) (PySem.IsL.isList (n := n') (N _ hb).1) rfl (by omega) (fun j h1 h2 => ?_) prog w E Q h
  have h3 : j < 3 := h1
  rcases j with _ | _ | _ | j
  · have := SeqAt.EqAt.int_int (A := A.in1) (s := s) x t x u; rwa [beq_self_eq_true] at this
  · exact rc_dicts (N _ hda).1 (N _ hdb).1 ia ib fa fb la lb hu'
  · exact rc_tups (N _ hta).1 (N _ htb).1 hu'
  · omega
theorem eq_news {oa ob : Obj} {ka kb : List (Int × Value)} {D : List (PyData × PyData)} (N : News g L s.heap news) (ha : (a, oa) ∈ news) (hb : (b, ob) ∈ news) (da : oa.IsDictOf (intKind prog w) ka) (db : ob.IsDictOf (intKind prog w) kb) (fa : FlatPairs PyData.int ka D) (fb : FlatPairs PyData.int kb D)
    (la : (a == sysModules) = false) (lb : (b == sysModules) = false) (hu : A.units < cLine) (h : Q (.bool true) s) : wpAny (model prog w) A (compareOp .Eq (.ref a) (.ref b)) Q E s :=
  eq_dicts (N _ ha).1 (N _ hb).1 da db fa fb la lb hu h
end
end Mine
end
section
namespace Mine
open PyProof.V PySem.Spec
local macro_rules | `(tactic| walk_at "pad 0") => `(tactic| fail)
local macro_rules | `(tactic| walk_at "pad 1") => `(tactic| fail)
local macro_rules | `(tactic| walk_at "pad 2") => `(tactic| fail)
theorem top_off_70 : True := by
  w_top off
  trivial
theorem kept_src {h h' : Heap} {src : Addr} {so : Obj} {rest : List (Addr × Obj)} (k : Kept (((src, so) :: rest).map (·.1)) h h') (h1 : ∀ p ∈ rest, h.get? p.1 = some p.2) (h2 : ∀ p ∈ rest, h'.get? p.1 = some p.2) : Kept [src] h h' := fun b o e n => by
  by_cases q : b ∈ rest.map (·.1)
  · obtain ⟨p, hp, rfl⟩ := List.mem_map.mp q
    rw [h1 p hp] at e
    exact (h2 p hp).trans e
  · refine k b o e fun z => ?_
    rcases List.mem_cons.mp z with z | z
    · exact n (by rw [z]; exact .head _)
    · exact q z
local macro_rules | `(tactic| k_mem) => `(tactic| assumption)
local macro_rules | `(tactic| k_all) => `(tactic| assumption)
local macro_rules | `(tactic| walk_at "call ref") => `(tactic| (k_here; (with_reducible show wpAny _ _ (call (Value.ref 92) _) _ _ _); (refine' take_use ?k1 ?k2 ?k3 ?k4 ?k5 ?k6 ?k7 ?k7b ?k8 ?k9 ?k10 ?_; (case k1 => k_asm); (case k2 => k_asm); (case k3 => k_asm); (case k4 => k_asm); (case k5 => k_updF); (case k6 => k_asm); (case k7 => omega); (case k7b => omega); (case k8 => rfl); (case k9 => exact Nat.le_of_ble_eq_true rfl); (case k10 => exact Nat.le_of_ble_eq_true rfl); intro d td so' h' tk' hd0 hd1 hs' F' N'; (try dsimp only at N'); (try k_sweep))))
local macro_rules | `(tactic| walk_at "call ref") => `(tactic| (k_here; (with_reducible show wpAny _ _ (call (Value.ref 64) _) _ _ _); (refine' frame_use ?k1 ?k2 ?k3 ?k4 ?k5 ?k6 ?k7 ?k8 ?k9 ?k10 ?k11 ?k12 ?k13 ?_; (case k1 => k_asm); (case k2 => k_asm); (case k3 => assumption); (case k4 => assumption); (case k5 => exact fun _ _ e => e); (case k6 => k_asm); (case k7 => exact fun p hp => by k_mem); (case k8 => omega); (case k9 => omega); (case k10 => omega); (case k11 => rfl); (case k12 => exact Nat.le_of_ble_eq_true rfl); (case k13 => exact Nat.le_of_ble_eq_true rfl); intro td h' tk' F' N'; (try k_sweep))))
local macro_rules | `(tactic| walk_at "call ref") => `(tactic| (k_here; (with_reducible show wpAny _ _ (call (Value.ref 99) _) _ _ _); (refine' last_use ?k1 ?k2 ?k3 ?k4 ?k5 ?k6 ?k7 ?k8 ?k9 ?k10 ?k11 ?k12 ?k13 ?_; (case k1 => k_asm); (case k2 => k_asm); (case k3 => assumption); (case k4 => assumption); (case k5 => exact fun _ _ e => e); (case k6 => k_mem); (case k7 => k_asm); (case k8 => omega); (case k9 => omega); (case k10 => omega); (case k11 => rfl); (case k12 => exact Nat.le_of_ble_eq_true rfl); (case k13 => exact Nat.le_of_ble_eq_true rfl); intro td h' tk' F' N'; (try k_sweep))))
local macro_rules | `(tactic| walk_at "compareOp NotEq ref ref") => `(tactic| (k_here; k_dflt (first
  | (refine' ne_lists ?N ?a ?b ?i ?j ?u ?_; (case N => k_asm); (case a => k_mem); (case b => k_mem); (case i => k_asm); (case j => k_asm); (case u => exact Nat.le_of_ble_eq_true rfl); k_whole)
  | (refine' ne_told (prog := Challenge.rw_pb0445_01.row.prog) ?N ?a ?b ?da ?db ?ta ?tb ?ia ?ib ?fa ?fb ?la ?lb ?u ?_; (case N => k_asm); (case a => k_mem); (case b => k_mem); (case da => k_mem); (case db => k_mem); (case ta => k_mem); (case tb => k_mem); (case ia => k_asm); (case ib => k_asm); (case fa => k_asm); (case fb => k_asm); (case la => k_asm); (case lb => k_asm); (case u => exact Nat.le_of_ble_eq_true rfl); k_whole))))
local macro_rules | `(tactic| walk_at "pyIter ref") => `(tactic| (with_reducible refine stop ?_))
local macro_rules | `(tactic| walk_at "exec For Name Tuple cons nil") => `(tactic| (k_here; (rename Fr _ _ _ _ => lF'); (with_unfolding_all refine' For_invVF lF' ?k1 ?k2 ?_; (case k1 => exact rfl); (case k2 => exact rfl); k_whole)))
local macro_rules | `(tactic| walk_at "call ref") => `(tactic| (k_here; (with_reducible show wpAny _ _ (call (Value.ref 71) _) _ _ _); (refine' newest_use ?k1 ?k2 ?k3 ?k4 ?k5 ?k6 ?k7 ?k8 ?k9 ?k10 ?k10b ?k11 ?k12 ?k13 ?_; (case k1 => k_asm); (case k2 => k_asm); (case k3 => assumption); (case k4 => assumption); (case k5 => exact fun _ _ e => e); (case k6 => k_asm); (case k7 => exact fun p hp => by k_mem); (case k8 => omega); (case k9 => omega); (case k10 => omega); (case k10b => omega); (case k11 => rfl); (case k12 => exact Nat.le_of_ble_eq_true rfl); (case k13 => exact Nat.le_of_ble_eq_true rfl); intro fd o' kvs' h' tk' F' N' hd' hf' lo'; (try k_sweep))))
local macro_rules | `(tactic| walk_at "call ref") => `(tactic| (k_here; (with_reducible show wpAny _ _ (call (Value.ref 106) _) _ _ _); (refine' lawnewest_use ?k1 ?k2 ?k3 ?k4 ?k5 ?k6 ?k7 ?k8 ?k9 ?k10 ?k10b ?k11 ?k12 ?k13 ?_; (case k1 => k_asm); (case k2 => k_asm); (case k3 => assumption); (case k4 => assumption); (case k5 => exact fun _ _ e => e); (case k6 => k_mem); (case k7 => k_asm); (case k8 => omega); (case k9 => omega); (case k10 => omega); (case k10b => omega); (case k11 => rfl); (case k12 => exact Nat.le_of_ble_eq_true rfl); (case k13 => exact Nat.le_of_ble_eq_true rfl); intro fd o' kvs' h' tk' F' N' hd' hf' lo'; (try k_sweep))))
local macro_rules | `(tactic| walk_at "compareOp Eq ref ref") => `(tactic| (k_here; k_dflt (refine' eq_news (prog := Challenge.rw_pb0445_01.row.prog) ?N ?a ?b ?ia ?ib ?fa ?fb ?la ?lb ?u ?_; (case N => k_asm); (case a => k_mem); (case b => k_mem); (case ia => k_asm); (case ib => k_asm); (case fa => k_asm); (case fb => k_asm); (case la => k_asm); (case lb => k_asm); (case u => exact Nat.le_of_ble_eq_true rfl); k_whole)))
def constJ (l : List (Str × Value)) {g h : Heap} {L : Addr} {nx₀ : List (Addr × Obj)} (_ : News g L h nx₀) : Nat → (Str → Option Value) → List (Addr × Obj) → Prop := fun _ m nx => nx = nx₀ ∧ Has m l
set_option maxHeartbeats 4000000 in
theorem right_spec {w : World} {s : Shared} {base : Heap} {loose : List Str} {mean : ExcName → Option Value} {mg mb : Str → Option Value} {Q : Value → Shared → Prop} {σ : Ix} {R : List (Addr × Obj)} {src lp lt ld ts : Addr} {so od : Obj} {pvs : List Value} {kd : List (Int × Value)} {tl t1 t2 u1 u2 : Tok} {pn ln n1 n2 : Nat} {s1 s2 : Int}
    (X : (hd.heap_39 w.params).In base) (T : Top hd.view_39 loose mean mg mb base) (hk : base.StaysIn s.heap) (I : IxLed w σ R) (hcap : σ.cap ≤ 500) (hs : Src so) (hp : IntsAre pvs σ.fr) (hdd : od.IsDictOf (intKind Challenge.rw_pb0445_01.row.prog w) kd) (hdf : FlatPairs PyData.int kd σ.cd) (lo2 : (ld == sysModules) = false)
    (hled : Owned base s.heap ((src, so) :: (lp, listOf pvs.toArray pn) :: (lt, listOf [Value.int σ.last tl, .ref ld, .ref ts].toArray ln) :: (ld, od) :: (ts, tupObj [.int s1 t1, .int s2 t2] n1) :: (σ.sm, tupObj [.int s1 u1, .int s2 u2] n2) :: R))
    (q1 : lp ≠ src) (q2 : lt ≠ src) (q3 : ld ≠ src) (q4 : ts ≠ src) (q5 : σ.sm ≠ src) (q6 : ∀ p ∈ R, p.1 ≠ src)
    (hret : ∀ so' h' tk', Src so' → h'.get? src = some so' → Kept [src] s.heap h' → Q (.bool true) { s with heap := h', toks := tk' }) :
    wpAny (model Challenge.rw_pb0445_01.row.prog w) (Aro 400 4000) (call (.ref 113) [.ref src, .ref σ.ix, .ref lp, .ref lt]) Q (fun _ _ => False) s := by
  revert X
  k_fill
  intro X
  obtain ⟨a, b, c, d, e, f, g0, h0, i0, j, x, y, z, hdx⟩ := I.hdx
  obtain ⟨vs, n, hlf, hfr⟩ := I.hlf
  obtain ⟨oc, kc, hdc, hcc, hcf⟩ := I.hdc
  have hix := I.hix
  have lo1 := I.lo2
  have hc2 := I.hc2
  have hl := I.hl
  replace q1 := neN q1; replace q2 := neN q2; replace q3 := neN q3; replace q4 := neN q4; replace q5 := neN q5
  refine' call_own (binds := [(Str.ofString "source", .ref src), (Str.ofString "index", .ref σ.ix), (Str.ofString "pages", .ref lp), (Str.ofString "told", .ref lt)]) ?k1 ?k2 ?k3 ?k4 ?k6 ?k7 ?k8 ?k9 ?kB ?_ ?c2 ?c3 ?c4 ?c5; (case k1 => k_asm); (case k2 => k_asm); (case k3 => k_asm); (case k4 => k_asm); (case k6 => k_is); (case k7 => k_is); (case k8 => decide); (case k9 => exact BindsTo.of_eq rfl); (case c5 => decide); (case kB => exact locs rfl); (case c2 => exact rfl); (case c3 => exact rfl); (case c4 => exact rfl); (try dsimp only); intro g L' h' F' N' st' X' T' lt' kept' none'
  k_steps
  unfold Stop
  rename IsRange _ _ _ _ _ _ _ _ => hR
  rename Fr _ _ _ _ => F9
  rename News _ _ _ _ => N9
  refine range_loop (fun i m nx => ∃ so1, Src so1 ∧ nx = ((src, so1) :: (lp, listOf pvs.toArray pn) :: (lt, listOf [Value.int σ.last tl, .ref ld, .ref ts].toArray ln) :: (ld, od) :: (ts, tupObj [.int s1 t1, .int s2 t2] n1) :: (σ.sm, tupObj [.int s1 u1, .int s2 u2] n2) :: R) ∧ Has m [(Str.ofString "source", .ref src), (Str.ofString "index", .ref σ.ix), (Str.ofString "pages", .ref lp), (Str.ofString "told", .ref lt)]) rfl hR (by omega) (by omega) F9 (fun p hp => N9 p (.tail _ hp)) ⟨so, hs, rfl, rfl, rfl, rfl, rfl, trivial⟩ ?_ ?_
  · rintro i t1' m₁ news₁ hp1 tk1 I1 oI hi1 ⟨so1, hs1, rfl, hm⟩ hoff hI F1 N1
    have F2 := fr_hasx F1 hm
    clear F1 F9 N9 hR
    have o1 := neN (hoff _ (.head _))
    dsimp only at o1
    k_steps
    unfold Stop
    rename Fr _ _ _ _ => F4
    rename News _ _ _ _ => N4
    refine' tup_loop (constJ [(Str.ofString "page", .int (1 + (i : Int)) t1'), (Str.ofString "source", .ref src), (Str.ofString "index", .ref σ.ix), (Str.ofString "pages", .ref lp), (Str.ofString "told", .ref lt)] N4) ?hx rfl F4 N4 ⟨rfl, rfl, rfl, rfl, rfl, rfl, trivial⟩ ?_ ?_
    case hx => (intro i m nx h; rw [h.1]; exact List.Mem.head _)
    · rintro i2 v m₂ news₂ hp2 tk2 I2 oI2 hi2 ⟨rfl, hm2⟩ hoff2 hI2 F5 N5
      obtain ⟨mk, tm, rfl, hmk⟩ : ∃ mk tm, v = Value.int mk tm ∧ (0 ≤ mk ∧ mk ≤ 1000) := by
        rcases i2 with _ | _ | _ | _ | i2
        · cases hi2; exact ⟨_, _, rfl, by omega⟩
        · cases hi2; exact ⟨_, _, rfl, by omega⟩
        · cases hi2; exact ⟨_, _, rfl, by omega⟩
        · cases hi2; exact ⟨_, _, rfl, by omega⟩
        · cases hi2
      have F6 := fr_hasx F5 hm2
      clear F4 F5
      k_steps
      · rename lastIn _ _ ≠ lastIn _ _ => hc
        exact absurd rfl hc
      · rename Fr _ _ _ _ => F7
        rename News _ _ _ _ => N7
        exact TurnEnd.intro F7 N7 hoff2 ⟨rfl, rfl, rfl, rfl, rfl, rfl, trivial⟩
    · rintro m₂ news₂ hp2 tk2 ⟨rfl, hm2⟩ F5 N5
      have F6 := fr_has F5 hm2
      clear F4 F5
      k_steps
      rename Fr _ _ _ _ => F7
      rename News _ _ _ _ => N7
      exact TurnEnd.intro F7 (fun p hp => N7 p (.tail _ hp)) (off_cons hoff) ⟨_, by assumption, rfl, rfl, rfl, rfl, rfl, trivial⟩
  · rintro m₁ news₁ hp1 tk1 ⟨so1, hs1, rfl, hm⟩ F1 N1
    have F2 := fr_has F1 hm
    clear F1 F9 N9 hR
    k_steps
    dsimp only
    rename Fr _ _ _ _ => F7
    rename News _ _ _ _ => N7
    exact hret _ _ _ (by assumption) (N7 _ (.tail _ (.tail _ (.head _)))).1 (kept_src (kept_of F7 kept') (fun p hp => (hled p (.tail _ hp)).1) (fun p hp => (N7 p (.tail _ (.tail _ (.tail _ hp)))).1))
end Mine
end
section
namespace Mine
open PyProof.V PySem.Spec
theorem top_off_75 : True := by
  w_top off
  trivial
/-- a ledger with the index's own part at its end, and what it becomes -/
inductive Cut (R : List (Addr × Obj)) : List (Addr × Obj) → (List (Addr × Obj) → List (Addr × Obj)) → Prop
  | here : Cut R R fun X => X
  | cons {p : Addr × Obj} {l : List (Addr × Obj)} {g : List (Addr × Obj) → List (Addr × Obj)} : Cut R l g → Cut R (p :: l) fun X => p :: g X
theorem Cut.eq {R l : List (Addr × Obj)} {g : List (Addr × Obj) → List (Addr × Obj)} (c : Cut R l g) : l = g [] ++ R ∧ ∀ X, g X = g [] ++ X := by
  induction c with
  | here => exact ⟨rfl, fun _ => rfl⟩
  | cons _ ih => exact ⟨congrArg _ ih.1, fun X => congrArg _ (ih.2 X)⟩
/-- none of the second ledger's places is one of the first's -/
def Off (l R : List (Addr × Obj)) : Prop := ∀ p ∈ l, ∀ q ∈ R, q.1 ≠ p.1
theorem next_use {h₀ h h' : Heap} {L : Addr} {m : Str → Option Value} {news R R' : List (Addr × Obj)} {gg : List (Addr × Obj) → List (Addr × Obj)} (F : Fr h₀ L h m) (N : News h₀ L h news) (c : Cut R news gg) (o : Off (gg []) R) (n : Next h₀ h h' R R') :
    Fr h₀ L h' m ∧ News h₀ L h' (gg R') ∧ Off (gg []) R' := by
  have hR : ∀ p ∈ R, p ∈ news := fun p hp => by rw [c.eq.1]; exact List.mem_append_right _ hp
  have hl : ∀ p ∈ gg [], p ∈ news := fun p hp => by rw [c.eq.1]; exact List.mem_append_left _ hp
  have F' : Fr h₀ L h' m := fr_after F (fun a ha => by
    obtain ⟨p, hp, rfl⟩ := List.mem_map.mp ha
    exact ⟨(N p (hR p hp)).2.2, (N p (hR p hp)).2.1⟩) n.2.1
  have hk : ∀ p ∈ gg [], h'.get? p.1 = some p.2 := fun p hp => n.2.1 _ _ (N p (hl p hp)).1 fun q => by
    obtain ⟨r, hr, e⟩ := List.mem_map.mp q
    exact o p hp r hr e
  obtain ⟨oL, _, _, hL, _⟩ := F.ns
  refine ⟨F', fun p hp => ?_, fun p hp q hq e => ?_⟩
  · rw [c.eq.2] at hp
    rcases List.mem_append.mp hp with hp | hp
    · exact ⟨hk p hp, (N p (hl p hp)).2⟩
    · refine ⟨(n.1 p hp).1, fun e => ?_, (n.1 p hp).2⟩
      rcases n.2.2 p hp with q | q
      · obtain ⟨r, hr, e2⟩ := List.mem_map.mp q
        exact (N r (hR r hr)).2.1 (e2.trans e)
      · rw [e, hL] at q; cases q
  · rcases n.2.2 q hq with z | z
    · obtain ⟨r, hr, e2⟩ := List.mem_map.mp z
      exact o p hp r hr (e2.trans e)
    · rw [e, (N p (hl p hp)).1] at z; cases z
section
variable {w : World} {s : Shared} {g : Heap} {loose : List Str} {mean : ExcName → Option Value} {mg mb : Str → Option Value} {A : Around} {L : Addr} {m : Str → Option Value} {news R : List (Addr × Obj)} {gg : List (Addr × Obj) → List (Addr × Obj)} {σ : Ix} {Q E : Value → Shared → Prop}
theorem own_cut (N : News g L s.heap news) (c : Cut R news gg) : Owned g s.heap R := fun p hp => by
  have := N p (by rw [c.eq.1]; exact List.mem_append_right _ hp)
  exact ⟨this.1, this.2.2⟩
theorem add_use {page : Int} {t : Tok} (F : Fr g L s.heap m) (N : News g L s.heap news) (X : (hd.heap_39 w.params).In g) (T : Top hd.view_39 loose mean mg mb g) (c : Cut R news gg) (o : Off (gg []) R) (I : IxLed w σ R) (hcap : σ.cap ≤ 500)
    (hh : A.handled = none) (hd' : A.depth ≤ 600) (hu : A.units ≤ 6000)
    (h : ∀ adr' kv' R' h' tk', IxLed w { σ with fr := σ.fr ++ [page], adr := adr', kv := kv', cap := σ.cap + 1 } R' → Fr g L h' m → News g L h' (gg R') → Off (gg []) R' → Q .none { s with heap := h', toks := tk' }) :
    wpAny (model Challenge.rw_pb0445_01.row.prog w) A (call (.ref 43) [.ref σ.ix, .int page t]) Q E s :=
  aro 600 6000 (add_spec (Q := Q) X T (fun b o e => F.keep b o e) (own_cut N c) I hcap fun adr' kv' R' h' tk' I' n => let ⟨a, b, d⟩ := next_use F N c o n; h adr' kv' R' h' tk' I' a b d) hh hd' hu
theorem note_use {many : Int} {t : Tok} {ts : Addr} (F : Fr g L s.heap m) (N : News g L s.heap news) (X : (hd.heap_39 w.params).In g) (T : Top hd.view_39 loose mean mg mb g) (c : Cut R news gg) (o : Off (gg []) R) (I : IxLed w σ R) (hcap : σ.cap ≤ 500)
    (hh : A.handled = none) (hd' : A.depth ≤ 600) (hu : A.units ≤ 6000)
    (h : ∀ R' h' tk', IxLed w { σ with last := σ.fr.length, cd := putD (.int (σ.fr.length : Int)) (.int many) σ.cd, sm := ts, cap := σ.cap + 1 } R' → Fr g L h' m → News g L h' (gg R') → Off (gg []) R' → Q .none { s with heap := h', toks := tk' }) :
    wpAny (model Challenge.rw_pb0445_01.row.prog w) A (call (.ref 50) [.ref σ.ix, .int many t, .ref ts]) Q E s :=
  aro 600 6000 (note_spec (Q := Q) X T (fun b o e => F.keep b o e) (own_cut N c) I hcap fun R' h' tk' I' n => let ⟨a, b, d⟩ := next_use F N c o n; h R' h' tk' I' a b d) hh hd' hu
theorem drop_use (F : Fr g L s.heap m) (N : News g L s.heap news) (X : (hd.heap_39 w.params).In g) (T : Top hd.view_39 loose mean mg mb g) (c : Cut R news gg) (o : Off (gg []) R) (I : IxLed w σ R) (hcap : σ.cap ≤ 500)
    (hh : A.handled = none) (hd' : A.depth ≤ 600) (hu : A.units ≤ 6000)
    (h : ∀ kv' R' h' tk', IxLed w { σ with fr := σ.fr.take σ.last.toNat, kv := kv' } R' → Fr g L h' m → News g L h' (gg R') → Off (gg []) R' → Q .none { s with heap := h', toks := tk' }) :
    wpAny (model Challenge.rw_pb0445_01.row.prog w) A (call (.ref 57) [.ref σ.ix]) Q E s :=
  aro 600 6000 (drop_spec (Q := Q) X T (fun b o e => F.keep b o e) (own_cut N c) I hcap fun kv' R' h' tk' I' n => let ⟨a, b, d⟩ := next_use F N c o n; h kv' R' h' tk' I' a b d) hh hd' hu
theorem clear_use (F : Fr g L s.heap m) (N : News g L s.heap news) (X : (hd.heap_39 w.params).In g) (T : Top hd.view_39 loose mean mg mb g) (c : Cut R news gg) (o : Off (gg []) R) (I : IxLed w σ R)
    (hh : A.handled = none) (hd' : A.depth ≤ 600) (hu : A.units ≤ 6000)
    (h : ∀ lf' dp' dc' sm' R' t1 t2 n h' tk', IxLed w { σ with lf := lf', dp := dp', dc := dc', sm := sm', fr := [], kv := [], cd := [], last := 0 } R' → Fr g L h' m → News g L h' ((sm', tupObj [.int 0 t1, .int 0 t2] n) :: gg R') → Off ((sm', tupObj [.int 0 t1, .int 0 t2] n) :: gg []) R' → (∀ p ∈ gg [], p.1 ≠ sm') → Q .none { s with heap := h', toks := tk' }) :
    wpAny (model Challenge.rw_pb0445_01.row.prog w) A (call (.ref 36) [.ref σ.ix]) Q E s := by
  refine aro 600 6000 (clear_spec (Q := Q) X T (fun b o e => F.keep b o e) (own_cut N c) I fun lf' dp' dc' sm' R' t1 t2 n h' tk' I' nx hsm hf hne => ?_) hh hd' hu
  obtain ⟨a, b, d⟩ := next_use F N c o nx
  have hl : ∀ p ∈ gg [], p ∈ news := fun p hp => by rw [c.eq.1]; exact List.mem_append_left _ hp
  refine h lf' dp' dc' sm' R' t1 t2 n h' tk' I' a ?_ ?_ ?_
  · intro p hp
    rcases List.mem_cons.mp hp with rfl | hp
    · obtain ⟨oL, _, _, hL, _⟩ := F.ns
      refine ⟨hsm, fun e => ?_, ?_⟩
      · have e' : sm' = L := e
        rw [e', hL] at hf; cases hf
      · cases q : g.get? sm' with
        | none => rfl
        | some o => rw [F.keep _ _ q] at hf; cases hf
    · exact b p hp
  · intro p hp q hq
    rcases List.mem_cons.mp hp with rfl | hp
    · exact hne q hq
    · exact d p hp q hq
  · intro p hp e
    rw [← e, (N p (hl p hp)).1] at hf; cases hf
theorem right_use {g2 : Obj → List (Addr × Obj)} {src lp lt ld ts : Addr} {so od : Obj} {pvs : List Value} {kd : List (Int × Value)} {tl t1 t2 u1 u2 : Tok} {pn ln n1 n2 : Nat} {s1 s2 : Int}
    (F : Fr g L s.heap m) (N : News g L s.heap news) (X : (hd.heap_39 w.params).In g) (T : Top hd.view_39 loose mean mg mb g) (U : UpdF src so news g2) (I : IxLed w σ R) (hcap : σ.cap ≤ 500) (hs : Src so) (hp : IntsAre pvs σ.fr) (hdd : od.IsDictOf (intKind Challenge.rw_pb0445_01.row.prog w) kd) (hdf : FlatPairs PyData.int kd σ.cd) (lo2 : (ld == sysModules) = false)
    (m1 : (lp, listOf pvs.toArray pn) ∈ news) (m2 : (lt, listOf [Value.int σ.last tl, .ref ld, .ref ts].toArray ln) ∈ news) (m3 : (ld, od) ∈ news) (m4 : (ts, tupObj [.int s1 t1, .int s2 t2] n1) ∈ news) (m5 : (σ.sm, tupObj [.int s1 u1, .int s2 u2] n2) ∈ news) (m6 : ∀ p ∈ R, p ∈ news)
    (q1 : lp ≠ src) (q2 : lt ≠ src) (q3 : ld ≠ src) (q4 : ts ≠ src) (q5 : σ.sm ≠ src) (q6 : ∀ p ∈ R, p.1 ≠ src)
    (hh : A.handled = none) (hd' : A.depth ≤ 400) (hu : A.units ≤ 4000)
    (h : ∀ so' h' tk', Src so' → Fr g L h' m → News g L h' (g2 so') → Q (.bool true) { s with heap := h', toks := tk' }) :
    wpAny (model Challenge.rw_pb0445_01.row.prog w) A (call (.ref 113) [.ref src, .ref σ.ix, .ref lp, .ref lt]) Q E s := by
  obtain ⟨pre, post, rfl, hg, hpre, hpost⟩ := U.split
  have hm := N (src, so) (List.mem_append_right _ (.head _))
  refine aro 400 4000 (right_spec (Q := Q) (pn := pn) (ln := ln) (n1 := n1) (n2 := n2) (s1 := s1) (s2 := s2) (t1 := t1) (t2 := t2) (u1 := u1) (u2 := u2) (tl := tl) X T (fun b o e => F.keep b o e) I hcap hs hp hdd hdf lo2 (fun p hp => ?_) q1 q2 q3 q4 q5 q6 fun so' h' tk' hs' hg' hk => ?_) hh hd' hu
  · have : p ∈ pre ++ (src, so) :: post := by
      rcases List.mem_cons.mp hp with rfl | hp
      · exact List.mem_append_right _ (.head _)
      rcases List.mem_cons.mp hp with rfl | hp
      · exact m1
      rcases List.mem_cons.mp hp with rfl | hp
      · exact m2
      rcases List.mem_cons.mp hp with rfl | hp
      · exact m3
      rcases List.mem_cons.mp hp with rfl | hp
      · exact m4
      rcases List.mem_cons.mp hp with rfl | hp
      · exact m5
      · exact m6 p hp
    exact ⟨(N p this).1, (N p this).2.2⟩
  · have off : ∀ p ∈ pre ++ (src, so) :: post, p.1 ≠ src → h'.get? p.1 = some p.2 ∧ p.1 ≠ L ∧ g.get? p.1 = none := fun p hp hne => ⟨hk _ _ (N p hp).1 fun q => hne (List.mem_singleton.mp q), (N p hp).2⟩
    refine h so' h' tk' hs' (fr_after F (fun x hx => by rw [List.mem_singleton.mp hx]; exact ⟨hm.2.2, hm.2.1⟩) hk) (hg _ ▸ fun p hp => ?_)
    rcases List.mem_append.mp hp with hp | hp
    · exact off p (List.mem_append_left _ hp) (hpre p hp)
    · rcases List.mem_cons.mp hp with rfl | hp
      · exact ⟨hg', hm.2⟩
      · exact off p (List.mem_append_right _ (.tail _ hp)) (hpost p hp)
end
end Mine
end
section
namespace Mine
open PyProof.V PySem.Spec
local macro_rules | `(tactic| walk_at "pad 0") => `(tactic| fail)
local macro_rules | `(tactic| walk_at "pad 1") => `(tactic| fail)
local macro_rules | `(tactic| walk_at "pad 2") => `(tactic| fail)
local macro_rules | `(tactic| walk_at "pad 3") => `(tactic| fail)
local macro_rules | `(tactic| walk_at "pad 4") => `(tactic| fail)
local macro_rules | `(tactic| walk_at "pad 5") => `(tactic| fail)
local macro_rules | `(tactic| walk_at "pad 6") => `(tactic| fail)
local macro_rules | `(tactic| walk_at "pad 7") => `(tactic| fail)
local macro_rules | `(tactic| walk_at "pad 8") => `(tactic| fail)
local macro_rules | `(tactic| walk_at "pad 9") => `(tactic| fail)
local macro_rules | `(tactic| walk_at "pad 10") => `(tactic| fail)
local macro_rules | `(tactic| walk_at "pad 11") => `(tactic| fail)
theorem top_off_80 : True := by
  w_top off
  trivial
def lawBody : List Stmt := match Challenge.pw_pb0445_01.main.body.getLast? with
  | some (.FunctionDef _ _ b _ _ _ _ _ _ _) => b
  | _ => []
def lawScope : Scope := match Challenge.pw_pb0445_01.main.body.getLast? with
  | some (.FunctionDef _ _ _ _ _ _ sc _ _ _) => sc
  | _ => default
def lawFor : List Stmt := match lawBody with
  | [_, _, .For _ _ b _ _, _] => b
  | _ => []
def lawTail : Stmt := match lawFor with
  | [_, _, t] => t
  | _ => .Pass default
/-- the law's state between two turns: what its frame owns -/
def LawJ (w : World) (src : Addr) (i : Nat) (m : Str → Option Value) (nx : List (Addr × Obj)) : Prop :=
  ∃ (σ : Ix) (R : List (Addr × Obj)) (so od : Obj) (pvs : List Value) (kd : List (Int × Value)) (lp lt ld ts : Addr) (tl t1 t2 u1 u2 : Tok) (pn ln n1 n2 : Nat) (s1 s2 : Int),
    nx = (src, so) :: (lp, listOf pvs.toArray pn) :: (lt, listOf [Value.int σ.last tl, .ref ld, .ref ts].toArray ln) :: (ld, od) :: (ts, tupObj [.int s1 t1, .int s2 t2] n1) :: (σ.sm, tupObj [.int s1 u1, .int s2 u2] n2) :: R ∧
    IxLed w σ R ∧ σ.cap ≤ i ∧ Src so ∧ IntsAre pvs σ.fr ∧ od.IsDictOf (intKind Challenge.rw_pb0445_01.row.prog w) kd ∧ FlatPairs PyData.int kd σ.cd ∧ (ld == sysModules) = false ∧
    (lp ≠ src ∧ lt ≠ src ∧ ld ≠ src ∧ ts ≠ src ∧ σ.sm ≠ src) ∧ ((∀ q ∈ R, q.1 ≠ src) ∧ (∀ q ∈ R, q.1 ≠ lp) ∧ (∀ q ∈ R, q.1 ≠ lt) ∧ (∀ q ∈ R, q.1 ≠ ld) ∧ (∀ q ∈ R, q.1 ≠ ts) ∧ ∀ q ∈ R, q.1 ≠ σ.sm) ∧
    Has m [(Str.ofString "source", .ref src), (Str.ofString "index", .ref σ.ix), (Str.ofString "pages", .ref lp), (Str.ofString "told", .ref lt)]
theorem off_cons2 {I src : Addr} {o o' : Obj} {l : List (Addr × Obj)} (h : ∀ p ∈ (src, o) :: l, p.1 ≠ I) : ∀ p ∈ (src, o') :: l, p.1 ≠ I := fun p hp => by
  rcases List.mem_cons.mp hp with rfl | hp
  · exact h (src, o) (List.Mem.head _)
  · exact h _ (.tail _ hp)
theorem take_mem {a : Addr × Obj} {l R : List (Addr × Obj)} (h : ∀ p ∈ R, p ∈ l) : ∀ p ∈ R, p ∈ a :: l := fun p hp => .tail _ (h p hp)
local macro_rules | `(tactic| k_mem) => `(tactic| assumption)
local macro_rules | `(tactic| k_all) => `(tactic| assumption)
local macro_rules | `(tactic| walk_at "call ref") => `(tactic| (k_here; (with_reducible show wpAny _ _ (call (Value.ref 113) _) _ _ _); (refine' right_use ?k1 ?k2 ?k3 ?k4 ?U ?k5 ?k6 ?k7 ?k8 ?k9 ?k10 ?k11 ?m1 ?m2 ?m3 ?m4 ?m5 ?m6 ?q1 ?q2 ?q3 ?q4 ?q5 ?q6 ?hh ?hd ?hu ?_; (case k1 => k_asm); (case k2 => k_asm); (case k3 => k_asm); (case k4 => k_asm); (case U => k_updF); (case k5 => k_asm); (case k6 => k_asm); (case k7 => k_asm); (case k8 => k_asm); (case k9 => k_asm); (case k10 => k_asm); (case k11 => k_asm); (case m1 => k_mem); (case m2 => k_mem); (case m3 => k_mem); (case m4 => k_mem); (case m5 => k_mem); (case m6 => (repeat (first | exact (fun _ h => h) | refine take_mem ?_))); (case q1 => k_asm); (case q2 => k_asm); (case q3 => k_asm); (case q4 => k_asm); (case q5 => k_asm); (case q6 => k_asm); (case hh => rfl); (case hd => exact Nat.le_of_ble_eq_true rfl); (case hu => exact Nat.le_of_ble_eq_true rfl); intro so' h' tk' hs' F' N'; (try dsimp only at N'); (try k_sweep))))
set_option maxHeartbeats 8000000 in
theorem tail_use {w : World} {s : Shared} {base : Heap} {loose : List Str} {mean : ExcName → Option Value} {mg mb : Str → Option Value} {L fa src I : Addr} {oI : Obj} {i : Nat} {cd : Value} {m : Str → Option Value} {news nx : List (Addr × Obj)} {Q : Flow → Shared → Prop}
    (X : (hd.heap_39 w.params).In base) (T : Top hd.view_39 loose mean mg mb base) (F : Fr base L s.heap m) (N : News base L s.heap news) (J : LawJ w src i m nx) (hi : i ≤ 400) (hs : ∀ p ∈ (I, oI) :: nx, p ∈ news) (hoff : ∀ p ∈ nx, p.1 ≠ I)
    (hret : ∀ h' tk' m' nx', Fr base L h' m' → News base L h' ((I, oI) :: nx') → (∀ p ∈ nx', p.1 ≠ I) → LawJ w src i m' nx' → Q .next { s with heap := h', toks := tk' }) :
    wpAny (model Challenge.rw_pb0445_01.row.prog w) (Aro 350 3000) (exec lawTail (envOf (Str.ofString "law") lawScope L fa cd)) Q (fun _ _ => False) s := by
  revert X
  k_fill
  intro X
  obtain ⟨σ, R, so, od, pvs, kd, lp, lt, ld, ts, tl, t1, t2, u1, u2, pn, ln, n1, n2, s1, s2, rfl, IL, hc, hso, hp, hdd, hdf, lo, ⟨q1, q2, q3, q4, q5⟩, ⟨r1, r2, r3, r4, r5, r6⟩, hm⟩ := J
  have N0 : News base L s.heap _ := fun p hp => N p (hs p hp)
  have F0 := fr_has F hm
  clear N F hm
  have hsI : src ≠ I := hoff _ (List.Mem.head _)
  have hcap : σ.cap ≤ 500 := Nat.le_trans hc (Nat.le_trans hi (by decide))
  replace q1 := neN q1; replace q2 := neN q2; replace q3 := neN q3; replace q4 := neN q4; replace q5 := neN q5; replace hsI := neN hsI
  with_unfolding_all change wpAny _ _ (exec (Stmt.If _ _ _ _) _) _ _ _
  k_steps
  rename Fr _ _ _ _ => F7
  rename News _ _ _ _ => N7
  rename Src _ => hs7
  exact hret _ _ _ _ F7 N7 (off_cons2 hoff) ⟨σ, R, _, od, pvs, kd, lp, lt, ld, ts, tl, t1, t2, u1, u2, pn, ln, n1, n2, s1, s2, rfl, IL, hc, hs7, hp, hdd, hdf, lo, ⟨q1, q2, q3, q4, q5⟩, ⟨r1, r2, r3, r4, r5, r6⟩, rfl, rfl, rfl, rfl, trivial⟩
theorem off_put {a I : Addr} {o : Obj} {l : List (Addr × Obj)} (h : a ≠ I) (r : ∀ q ∈ l, q.1 ≠ I) : ∀ q ∈ (a, o) :: l, q.1 ≠ I := fun q hq => by
  rcases List.mem_cons.mp hq with rfl | hq
  · exact h
  · exact r q hq
theorem sub_put {p : Addr × Obj} {l r : List (Addr × Obj)} (h : p ∈ l) (hr : ∀ q ∈ r, q ∈ l) : ∀ q ∈ p :: r, q ∈ l := fun q hq => by
  rcases List.mem_cons.mp hq with rfl | hq
  · exact h
  · exact hr q hq
theorem turn_tail {w : World} {s : Shared} {base h : Heap} {loose : List Str} {mean : ExcName → Option Value} {mg mb : Str → Option Value} {L fa src I lp lt ld ts : Addr} {oI so od : Obj} {i tk : Nat} {cd : Value} {m : Str → Option Value} {news R : List (Addr × Obj)} {σ : Ix} {pvs : List Value} {kd : List (Int × Value)} {tl t1 t2 u1 u2 : Tok} {pn ln n1 n2 : Nat} {s1 s2 : Int} {Q : Flow → Shared → Prop}
    (X : (hd.heap_39 w.params).In base) (T : Top hd.view_39 loose mean mg mb base) (F : Fr base L h m) (N : News base L h news) (IL : IxLed w σ R)
    (hm : Has m [(Str.ofString "source", .ref src), (Str.ofString "index", .ref σ.ix), (Str.ofString "pages", .ref lp), (Str.ofString "told", .ref lt)])
    (hc : σ.cap ≤ i + 1) (hi : i + 1 ≤ 400) (hs : Src so)
    (mI : (I, oI) ∈ news) (m0 : (src, so) ∈ news) (m1 : (lp, listOf pvs.toArray pn) ∈ news) (m2 : (lt, listOf [Value.int σ.last tl, .ref ld, .ref ts].toArray ln) ∈ news) (m3 : (ld, od) ∈ news) (m4 : (ts, tupObj [.int s1 t1, .int s2 t2] n1) ∈ news) (m5 : (σ.sm, tupObj [.int s1 u1, .int s2 u2] n2) ∈ news) (m6 : ∀ p ∈ R, p ∈ news)
    (hp : IntsAre pvs σ.fr) (hdd : od.IsDictOf (intKind Challenge.rw_pb0445_01.row.prog w) kd) (hdf : FlatPairs PyData.int kd σ.cd) (lo : (ld == sysModules) = false)
    (q1 : lp ≠ src) (q2 : lt ≠ src) (q3 : ld ≠ src) (q4 : ts ≠ src) (q5 : σ.sm ≠ src)
    (r1 : ∀ q ∈ R, q.1 ≠ src) (r2 : ∀ q ∈ R, q.1 ≠ lp) (r3 : ∀ q ∈ R, q.1 ≠ lt) (r4 : ∀ q ∈ R, q.1 ≠ ld) (r5 : ∀ q ∈ R, q.1 ≠ ts) (r6 : ∀ q ∈ R, q.1 ≠ σ.sm)
    (i0 : src ≠ I) (i1 : lp ≠ I) (i2 : lt ≠ I) (i3 : ld ≠ I) (i4 : ts ≠ I) (i5 : σ.sm ≠ I) (i6 : ∀ q ∈ R, q.1 ≠ I)
    (hret : ∀ h' tk' m' nx', Fr base L h' m' → News base L h' ((I, oI) :: nx') → (∀ p ∈ nx', p.1 ≠ I) → LawJ w src (i + 1) m' nx' → Q .next { s with heap := h', toks := tk' }) :
    wpAny (model Challenge.rw_pb0445_01.row.prog w) (Aro 350 3000) (exec lawTail (envOf (Str.ofString "law") lawScope L fa cd)) Q (fun _ _ => False) { s with heap := h, toks := tk } := by
  refine tail_use (s := { s with heap := h, toks := tk }) (I := I) (oI := oI) (i := i + 1) X T F N ⟨σ, R, so, od, pvs, kd, lp, lt, ld, ts, tl, t1, t2, u1, u2, pn, ln, n1, n2, s1, s2, rfl, IL, hc, hs, hp, hdd, hdf, lo, ⟨q1, q2, q3, q4, q5⟩, ⟨r1, r2, r3, r4, r5, r6⟩, hm⟩ hi ?_ ?_ hret
  · exact sub_put mI (sub_put m0 (sub_put m1 (sub_put m2 (sub_put m3 (sub_put m4 (sub_put m5 m6))))))
  · exact off_put i0 (off_put i1 (off_put i2 (off_put i3 (off_put i4 (off_put i5 i6)))))
end Mine
end
section
namespace Mine
open PyProof.V PySem.Spec
local macro_rules | `(tactic| walk_at "pad 0") => `(tactic| fail)
local macro_rules | `(tactic| walk_at "pad 1") => `(tactic| fail)
theorem top_off_85 : True := by
  w_top off
  trivial
theorem off_nil {R : List (Addr × Obj)} : Off [] R := fun _ hp => nomatch hp
theorem off_two {a : Addr} {o : Obj} {l R : List (Addr × Obj)} (h : ∀ q ∈ R, q.1 ≠ a) (r : Off l R) : Off ((a, o) :: l) R := fun p hp q hq => by
  rcases List.mem_cons.mp hp with rfl | hp
  · exact h q hq
  · exact r p hp q hq
theorem off_fst {a : Addr} {o : Obj} {l R : List (Addr × Obj)} (h : Off ((a, o) :: l) R) : ∀ q ∈ R, q.1 ≠ a := fun q hq => h (a, o) (List.Mem.head _) q hq
theorem off_snd {p : Addr × Obj} {l R : List (Addr × Obj)} (h : Off (p :: l) R) : Off l R := fun x hx => h x (.tail _ hx)
theorem off_at {p : Addr × Obj} {l : List (Addr × Obj)} {I : Addr} (h : ∀ x ∈ p :: l, x.1 ≠ I) : p.1 ≠ I ∧ ∀ x ∈ l, x.1 ≠ I := ⟨h _ (List.Mem.head _), fun x hx => h x (.tail _ hx)⟩
theorem off_nat {a I : Addr} {o : Obj} {l : List (Addr × Obj)} (h : ∀ x ∈ (a, o) :: l, x.1 ≠ I) : I ≠ a ∧ ∀ x ∈ l, x.1 ≠ I := ⟨fun e => h (a, o) (List.Mem.head _) e.symm, fun x hx => h x (.tail _ hx)⟩
theorem lt_all {d : Addr} {R : List (Addr × Obj)} (h : AllLt d R) : ∀ q ∈ R, q.1 ≠ d := fun q hq => Nat.ne_of_lt (tb_ltOf h q hq)
local macro_rules | `(tactic| k_mem) => `(tactic| assumption)
local macro_rules | `(tactic| k_all) => `(tactic| (first | assumption | (refine lt_all ?_; (first | assumption | (apply And.right; assumption) | (apply And.right; apply And.right; assumption) | (apply And.right; apply And.right; apply And.right; assumption) | (apply And.right; apply And.right; apply And.right; apply And.right; assumption) | (apply And.right; apply And.right; apply And.right; apply And.right; apply And.right; assumption) | (apply And.right; apply And.right; apply And.right; apply And.right; apply And.right; apply And.right; assumption) | (apply And.right; apply And.right; apply And.right; apply And.right; apply And.right; apply And.right; apply And.right; assumption) | (apply And.right; apply And.right; apply And.right; apply And.right; apply And.right; apply And.right; apply And.right; apply And.right; assumption) | (apply And.right; apply And.right; apply And.right; apply And.right; apply And.right; apply And.right; apply And.right; apply And.right; apply And.right; assumption) | (apply And.right; apply And.right; apply And.right; apply And.right; apply And.right; apply And.right; apply And.right; apply And.right; apply And.right; apply And.right; assumption) | (apply And.right; apply And.right; apply And.right; apply And.right; apply And.right; apply And.right; apply And.right; apply And.right; apply And.right; apply And.right; apply And.right; assumption) | (apply And.right; apply And.right; apply And.right; apply And.right; apply And.right; apply And.right; apply And.right; apply And.right; apply And.right; apply And.right; apply And.right; apply And.right; assumption) | (apply And.right; apply And.right; apply And.right; apply And.right; apply And.right; apply And.right; apply And.right; apply And.right; apply And.right; apply And.right; apply And.right; apply And.right; apply And.right; assumption) | (apply And.right; apply And.right; apply And.right; apply And.right; apply And.right; apply And.right; apply And.right; apply And.right; apply And.right; apply And.right; apply And.right; apply And.right; apply And.right; apply And.right; assumption)))))
local macro_rules | `(tactic| walk_at "call ref") => `(tactic| (k_here; (with_reducible show wpAny _ _ (call (Value.ref 92) _) _ _ _); (refine' take_use ?k1 ?k2 ?k3 ?k4 ?k5 ?k6 ?k7 ?k7b ?k8 ?k9 ?k10 ?_; (case k1 => k_asm); (case k2 => k_asm); (case k3 => k_asm); (case k4 => k_asm); (case k5 => k_updF); (case k6 => k_asm); (case k7 => decide); (case k7b => decide); (case k8 => rfl); (case k9 => exact Nat.le_of_ble_eq_true rfl); (case k10 => exact Nat.le_of_ble_eq_true rfl); intro d td so' h' tk' hd0 hd1 hs' F' N'; (try dsimp only at N'); (try k_sweep))))
local macro_rules | `(tactic| walk_at "call ref") => `(tactic| (k_here; (show wpAny _ _ (call (Value.ref 43) _) _ _ _); (refine' add_use ?k1 ?k2 ?k3 ?k4 ?k6 ?k7 ?k5 ?k8 ?k9 ?k10 ?k11 ?_; (case k1 => k_asm); (case k2 => k_asm); (case k3 => k_asm); (case k4 => k_asm); (case k5 => k_asm); (case k6 => (repeat (first | exact Cut.here | apply Cut.cons))); (case k7 => (repeat (first | exact off_nil | refine off_two (by first | assumption | (refine lt_all ?_; (first | assumption | (apply And.right; assumption) | (apply And.right; apply And.right; assumption) | (apply And.right; apply And.right; apply And.right; assumption) | (apply And.right; apply And.right; apply And.right; apply And.right; assumption) | (apply And.right; apply And.right; apply And.right; apply And.right; apply And.right; assumption) | (apply And.right; apply And.right; apply And.right; apply And.right; apply And.right; apply And.right; assumption) | (apply And.right; apply And.right; apply And.right; apply And.right; apply And.right; apply And.right; apply And.right; assumption) | (apply And.right; apply And.right; apply And.right; apply And.right; apply And.right; apply And.right; apply And.right; apply And.right; assumption) | (apply And.right; apply And.right; apply And.right; apply And.right; apply And.right; apply And.right; apply And.right; apply And.right; apply And.right; assumption) | (apply And.right; apply And.right; apply And.right; apply And.right; apply And.right; apply And.right; apply And.right; apply And.right; apply And.right; apply And.right; assumption) | (apply And.right; apply And.right; apply And.right; apply And.right; apply And.right; apply And.right; apply And.right; apply And.right; apply And.right; apply And.right; apply And.right; assumption) | (apply And.right; apply And.right; apply And.right; apply And.right; apply And.right; apply And.right; apply And.right; apply And.right; apply And.right; apply And.right; apply And.right; apply And.right; assumption) | (apply And.right; apply And.right; apply And.right; apply And.right; apply And.right; apply And.right; apply And.right; apply And.right; apply And.right; apply And.right; apply And.right; apply And.right; apply And.right; assumption) | (apply And.right; apply And.right; apply And.right; apply And.right; apply And.right; apply And.right; apply And.right; apply And.right; apply And.right; apply And.right; apply And.right; apply And.right; apply And.right; apply And.right; assumption)))) ?_))); (case k8 => k_asm); (case k9 => rfl); (case k10 => exact Nat.le_of_ble_eq_true rfl); (case k11 => exact Nat.le_of_ble_eq_true rfl); intro adr' kv' R' h' tk' I' F' N' O'; (try dsimp only at N' O'); (repeat (have := off_fst O'; replace O' := off_snd O')); (try k_sweep))))
local macro_rules | `(tactic| walk_at "call ref") => `(tactic| (k_here; (show wpAny _ _ (call (Value.ref 50) _) _ _ _); (refine' note_use ?k1 ?k2 ?k3 ?k4 ?k6 ?k7 ?k5 ?k8 ?k9 ?k10 ?k11 ?_; (case k1 => k_asm); (case k2 => k_asm); (case k3 => k_asm); (case k4 => k_asm); (case k5 => k_asm); (case k6 => (repeat (first | exact Cut.here | apply Cut.cons))); (case k7 => (repeat (first | exact off_nil | refine off_two (by first | assumption | (refine lt_all ?_; (first | assumption | (apply And.right; assumption) | (apply And.right; apply And.right; assumption) | (apply And.right; apply And.right; apply And.right; assumption) | (apply And.right; apply And.right; apply And.right; apply And.right; assumption) | (apply And.right; apply And.right; apply And.right; apply And.right; apply And.right; assumption) | (apply And.right; apply And.right; apply And.right; apply And.right; apply And.right; apply And.right; assumption) | (apply And.right; apply And.right; apply And.right; apply And.right; apply And.right; apply And.right; apply And.right; assumption) | (apply And.right; apply And.right; apply And.right; apply And.right; apply And.right; apply And.right; apply And.right; apply And.right; assumption) | (apply And.right; apply And.right; apply And.right; apply And.right; apply And.right; apply And.right; apply And.right; apply And.right; apply And.right; assumption) | (apply And.right; apply And.right; apply And.right; apply And.right; apply And.right; apply And.right; apply And.right; apply And.right; apply And.right; apply And.right; assumption) | (apply And.right; apply And.right; apply And.right; apply And.right; apply And.right; apply And.right; apply And.right; apply And.right; apply And.right; apply And.right; apply And.right; assumption) | (apply And.right; apply And.right; apply And.right; apply And.right; apply And.right; apply And.right; apply And.right; apply And.right; apply And.right; apply And.right; apply And.right; apply And.right; assumption) | (apply And.right; apply And.right; apply And.right; apply And.right; apply And.right; apply And.right; apply And.right; apply And.right; apply And.right; apply And.right; apply And.right; apply And.right; apply And.right; assumption) | (apply And.right; apply And.right; apply And.right; apply And.right; apply And.right; apply And.right; apply And.right; apply And.right; apply And.right; apply And.right; apply And.right; apply And.right; apply And.right; apply And.right; assumption)))) ?_))); (case k8 => k_asm); (case k9 => rfl); (case k10 => exact Nat.le_of_ble_eq_true rfl); (case k11 => exact Nat.le_of_ble_eq_true rfl); intro R' h' tk' I' F' N' O'; (try dsimp only at N' O'); (repeat (have := off_fst O'; replace O' := off_snd O')); (try k_sweep))))
local macro_rules | `(tactic| walk_at "call ref") => `(tactic| (k_here; (show wpAny _ _ (call (Value.ref 36) _) _ _ _); (refine' clear_use ?k1 ?k2 ?k3 ?k4 ?k6 ?k7 ?k5 ?k9 ?k10 ?k11 ?_; (case k1 => k_asm); (case k2 => k_asm); (case k3 => k_asm); (case k4 => k_asm); (case k5 => k_asm); (case k6 => (repeat (first | exact Cut.here | apply Cut.cons))); (case k7 => (repeat (first | exact off_nil | refine off_two (by first | assumption | (refine lt_all ?_; (first | assumption | (apply And.right; assumption) | (apply And.right; apply And.right; assumption) | (apply And.right; apply And.right; apply And.right; assumption) | (apply And.right; apply And.right; apply And.right; apply And.right; assumption) | (apply And.right; apply And.right; apply And.right; apply And.right; apply And.right; assumption) | (apply And.right; apply And.right; apply And.right; apply And.right; apply And.right; apply And.right; assumption) | (apply And.right; apply And.right; apply And.right; apply And.right; apply And.right; apply And.right; apply And.right; assumption) | (apply And.right; apply And.right; apply And.right; apply And.right; apply And.right; apply And.right; apply And.right; apply And.right; assumption) | (apply And.right; apply And.right; apply And.right; apply And.right; apply And.right; apply And.right; apply And.right; apply And.right; apply And.right; assumption) | (apply And.right; apply And.right; apply And.right; apply And.right; apply And.right; apply And.right; apply And.right; apply And.right; apply And.right; apply And.right; assumption) | (apply And.right; apply And.right; apply And.right; apply And.right; apply And.right; apply And.right; apply And.right; apply And.right; apply And.right; apply And.right; apply And.right; assumption) | (apply And.right; apply And.right; apply And.right; apply And.right; apply And.right; apply And.right; apply And.right; apply And.right; apply And.right; apply And.right; apply And.right; apply And.right; assumption) | (apply And.right; apply And.right; apply And.right; apply And.right; apply And.right; apply And.right; apply And.right; apply And.right; apply And.right; apply And.right; apply And.right; apply And.right; apply And.right; assumption) | (apply And.right; apply And.right; apply And.right; apply And.right; apply And.right; apply And.right; apply And.right; apply And.right; apply And.right; apply And.right; apply And.right; apply And.right; apply And.right; apply And.right; assumption)))) ?_))); (case k9 => rfl); (case k10 => exact Nat.le_of_ble_eq_true rfl); (case k11 => exact Nat.le_of_ble_eq_true rfl); intro lf' dp' dc' sm' R' u3 u4 n3 h' tk' I' F' N' O' P'; (try dsimp only at N' O' P'); (repeat (have := off_fst O'; replace O' := off_snd O')); (try k_sweep))))
local macro_rules | `(tactic| walk_at "call ref") => `(tactic| (k_here; (show wpAny _ _ (call (Value.ref 57) _) _ _ _); (refine' drop_use ?k1 ?k2 ?k3 ?k4 ?k6 ?k7 ?k5 ?k8 ?k9 ?k10 ?k11 ?_; (case k1 => k_asm); (case k2 => k_asm); (case k3 => k_asm); (case k4 => k_asm); (case k5 => k_asm); (case k6 => (repeat (first | exact Cut.here | apply Cut.cons))); (case k7 => (repeat (first | exact off_nil | refine off_two (by first | assumption | (refine lt_all ?_; (first | assumption | (apply And.right; assumption) | (apply And.right; apply And.right; assumption) | (apply And.right; apply And.right; apply And.right; assumption) | (apply And.right; apply And.right; apply And.right; apply And.right; assumption) | (apply And.right; apply And.right; apply And.right; apply And.right; apply And.right; assumption) | (apply And.right; apply And.right; apply And.right; apply And.right; apply And.right; apply And.right; assumption) | (apply And.right; apply And.right; apply And.right; apply And.right; apply And.right; apply And.right; apply And.right; assumption) | (apply And.right; apply And.right; apply And.right; apply And.right; apply And.right; apply And.right; apply And.right; apply And.right; assumption) | (apply And.right; apply And.right; apply And.right; apply And.right; apply And.right; apply And.right; apply And.right; apply And.right; apply And.right; assumption) | (apply And.right; apply And.right; apply And.right; apply And.right; apply And.right; apply And.right; apply And.right; apply And.right; apply And.right; apply And.right; assumption) | (apply And.right; apply And.right; apply And.right; apply And.right; apply And.right; apply And.right; apply And.right; apply And.right; apply And.right; apply And.right; apply And.right; assumption) | (apply And.right; apply And.right; apply And.right; apply And.right; apply And.right; apply And.right; apply And.right; apply And.right; apply And.right; apply And.right; apply And.right; apply And.right; assumption) | (apply And.right; apply And.right; apply And.right; apply And.right; apply And.right; apply And.right; apply And.right; apply And.right; apply And.right; apply And.right; apply And.right; apply And.right; apply And.right; assumption) | (apply And.right; apply And.right; apply And.right; apply And.right; apply And.right; apply And.right; apply And.right; apply And.right; apply And.right; apply And.right; apply And.right; apply And.right; apply And.right; apply And.right; assumption)))) ?_))); (case k8 => k_asm); (case k9 => rfl); (case k10 => exact Nat.le_of_ble_eq_true rfl); (case k11 => exact Nat.le_of_ble_eq_true rfl); intro kv' R' h' tk' I' F' N' O'; (try dsimp only at N' O'); (repeat (have := off_fst O'; replace O' := off_snd O')); (try k_sweep))))
local macro_rules | `(tactic| walk_at "exec If") => `(tactic| (k_here; (with_reducible show wpAny _ _ (exec (Stmt.If (Expr.UnaryOp _ _ _) _ _ _) _) _ _ _); refine stop ?_))
local macro_rules | `(tactic| walk_at "binaryOp Add ref ref") => `(tactic| (k_here; k_dflt (refine' kmk_add_ints ?F ?N ?a ?b ?i ?j ?_ ?z; (case F => k_asm); (case N => k_asm); (case a => exact News.isList (by k_asm) (by k_mem)); (case b => exact News.isList (by k_asm) (by k_mem)); (case i => k_asm); (case j => l_ints); (case z => (simp only [sizeLine_eq, List.length_cons, List.length_nil]; omega))); intro D' ws' h' F' N' l1 hI'; (try k_lt l1); (try k_sweep)))
local macro_rules | `(tactic| walk_at "subscriptTail Name Slice ref ref") => `(tactic| (k_here; k_dflt (refine' kmk_slice_ints ?F ?N ?l ?p ?q ?i ?m ?c ?_ ?s ?t ?z; (case F => k_asm); (case N => k_asm); (case l => exact News.isList (by k_asm) (by k_mem)); (case p => exact IsPart.none); (case q => exact IsPart.int _ _); (case i => k_asm); (case m => exact kmk_upto (by assumption) (by omega)); (case c => exact rfl); (case s => with_unfolding_all rfl); (case t => (intro _; with_unfolding_all rfl)); (case z => exact kmk_sz (by assumption) (by simp only [sizeLine_eq]; omega))); intro D' ws' h' F' N' l1 hI' hC' hL'; clear hC' hL'; (try k_lt l1); (try k_sweep)))
local macro_rules | `(tactic| walk_at "call type:dict") => `(tactic| (k_here; (with_reducible show wpAny _ _ (call (Value.type "dict") [Value.ref _]) _ _ _); k_dflt (refine kt_dict_K (knd := PySem.intKind _ _) (enc := PyData.int) (by k_asm) (by k_asm) (Top.nolimit (by assumption)) (TabAt.ofNews (by k_asm) (by k_mem) (by k_asm) (by k_asm) (by k_asm)) (by simp only [sizeLine_eq]; omega) ?_); intro d' h' o' kvs' F' N' l1 lo' hd' hf'; (have hz' := hf'.length); (try k_lt l1)))
local macro_rules | `(tactic| walk_at "setItem ref int") => `(tactic| (k_here; k_dflt (refine' dset ?F ?N ?U ?d ?z ?_; (case F => k_asm); (case N => k_asm); (case U => k_updF); (case d => k_asm); (case z => omega); k_whole); intro h' o' F' N' hd'; (try dsimp only at N'); (try k_sweep)))
local macro_rules | `(tactic| walk_at "setItem ref int int") => `(tactic| (k_here; k_dflt (refine' dset ?F ?N ?U ?d ?z ?_; (case F => k_asm); (case N => k_asm); (case U => k_updF); (case d => k_asm); (case z => omega); k_whole); intro h' o' F' N' hd'; (try dsimp only at N'); (try k_sweep)))
local macro_rules | `(tactic| walk_at "LAW END") => `(tactic| ((rename Fr _ _ _ _ => F7); (rename News _ _ _ _ => N7); (rename IxLed _ _ _ => I7); (rename Src _ => s7); (refine' turn_tail ?X ?T F7 N7 I7 ?hm ?hc ?hi s7 ?mI ?m0 ?m1 ?m2 ?m3 ?m4 ?m5 ?m6 ?hp ?hdd ?hdf ?lo ?q1 ?q2 ?q3 ?q4 ?q5 ?r1 ?r2 ?r3 ?r4 ?r5 ?r6 ?i0 ?i1 ?i2 ?i3 ?i4 ?i5 ?i6 ?hret); (case hret => (intro h' tk' m' nx' F' N' o' J'; exact wpAny_execs_nil (TurnEnd.intro F' N' o' J'))); (case X => assumption); (case T => assumption); (case hm => exact ⟨rfl, rfl, rfl, rfl, trivial⟩); (case hc => ((try dsimp only); omega)); (case hi => omega); (case mI => k_mem); (case m0 => k_mem); (case m1 => k_mem); (case m2 => k_mem); (case m3 => k_mem); (case m4 => k_mem); (case m5 => k_mem); (case m6 => (repeat (first | exact (fun _ h => h) | refine take_mem ?_))); (case hp => first | assumption | exact .nil); (case hdd => assumption); (case hdf => first | assumption | exact flat_stored (by assumption)); (case lo => assumption); (case q1 => (first | assumption | (refine neN ?_; (try dsimp only); omega))); (case q2 => (first | assumption | (refine neN ?_; (try dsimp only); omega))); (case q3 => (first | assumption | (refine neN ?_; (try dsimp only); omega))); (case q4 => (first | assumption | (refine neN ?_; (try dsimp only); omega))); (case q5 => (first | assumption | (refine fun e => ?_; (rename ∀ p ∈ (_, _) :: _, p.1 ≠ _ => P9); exact P9 (_, _) (by k_mem) e.symm) | (refine neN ?_; (try dsimp only); omega))); (case i0 => (first | assumption | (refine neN ?_; (try dsimp only); omega))); (case i1 => (first | assumption | (refine neN ?_; (try dsimp only); omega))); (case i2 => (first | assumption | (refine neN ?_; (try dsimp only); omega))); (case i3 => (first | assumption | (refine neN ?_; (try dsimp only); omega))); (case i4 => (first | assumption | (refine neN ?_; (try dsimp only); omega))); (case i5 => (first | assumption | (refine fun e => ?_; (rename ∀ p ∈ (_, _) :: _, p.1 ≠ _ => P9); exact P9 (_, _) (by k_mem) e.symm) | (refine neN ?_; (try dsimp only); omega))); (case r1 => (first | assumption | (refine lt_all ?_; (first | assumption | (apply And.right; assumption) | (apply And.right; apply And.right; assumption) | (apply And.right; apply And.right; apply And.right; assumption) | (apply And.right; apply And.right; apply And.right; apply And.right; assumption) | (apply And.right; apply And.right; apply And.right; apply And.right; apply And.right; assumption) | (apply And.right; apply And.right; apply And.right; apply And.right; apply And.right; apply And.right; assumption) | (apply And.right; apply And.right; apply And.right; apply And.right; apply And.right; apply And.right; apply And.right; assumption) | (apply And.right; apply And.right; apply And.right; apply And.right; apply And.right; apply And.right; apply And.right; apply And.right; assumption) | (apply And.right; apply And.right; apply And.right; apply And.right; apply And.right; apply And.right; apply And.right; apply And.right; apply And.right; assumption) | (apply And.right; apply And.right; apply And.right; apply And.right; apply And.right; apply And.right; apply And.right; apply And.right; apply And.right; apply And.right; assumption) | (apply And.right; apply And.right; apply And.right; apply And.right; apply And.right; apply And.right; apply And.right; apply And.right; apply And.right; apply And.right; apply And.right; assumption) | (apply And.right; apply And.right; apply And.right; apply And.right; apply And.right; apply And.right; apply And.right; apply And.right; apply And.right; apply And.right; apply And.right; apply And.right; assumption) | (apply And.right; apply And.right; apply And.right; apply And.right; apply And.right; apply And.right; apply And.right; apply And.right; apply And.right; apply And.right; apply And.right; apply And.right; apply And.right; assumption) | (apply And.right; apply And.right; apply And.right; apply And.right; apply And.right; apply And.right; apply And.right; apply And.right; apply And.right; apply And.right; apply And.right; apply And.right; apply And.right; apply And.right; assumption))))); (case r2 => (first | assumption | (refine lt_all ?_; (first | assumption | (apply And.right; assumption) | (apply And.right; apply And.right; assumption) | (apply And.right; apply And.right; apply And.right; assumption) | (apply And.right; apply And.right; apply And.right; apply And.right; assumption) | (apply And.right; apply And.right; apply And.right; apply And.right; apply And.right; assumption) | (apply And.right; apply And.right; apply And.right; apply And.right; apply And.right; apply And.right; assumption) | (apply And.right; apply And.right; apply And.right; apply And.right; apply And.right; apply And.right; apply And.right; assumption) | (apply And.right; apply And.right; apply And.right; apply And.right; apply And.right; apply And.right; apply And.right; apply And.right; assumption) | (apply And.right; apply And.right; apply And.right; apply And.right; apply And.right; apply And.right; apply And.right; apply And.right; apply And.right; assumption) | (apply And.right; apply And.right; apply And.right; apply And.right; apply And.right; apply And.right; apply And.right; apply And.right; apply And.right; apply And.right; assumption) | (apply And.right; apply And.right; apply And.right; apply And.right; apply And.right; apply And.right; apply And.right; apply And.right; apply And.right; apply And.right; apply And.right; assumption) | (apply And.right; apply And.right; apply And.right; apply And.right; apply And.right; apply And.right; apply And.right; apply And.right; apply And.right; apply And.right; apply And.right; apply And.right; assumption) | (apply And.right; apply And.right; apply And.right; apply And.right; apply And.right; apply And.right; apply And.right; apply And.right; apply And.right; apply And.right; apply And.right; apply And.right; apply And.right; assumption) | (apply And.right; apply And.right; apply And.right; apply And.right; apply And.right; apply And.right; apply And.right; apply And.right; apply And.right; apply And.right; apply And.right; apply And.right; apply And.right; apply And.right; assumption))))); (case r3 => (first | assumption | (refine lt_all ?_; (first | assumption | (apply And.right; assumption) | (apply And.right; apply And.right; assumption) | (apply And.right; apply And.right; apply And.right; assumption) | (apply And.right; apply And.right; apply And.right; apply And.right; assumption) | (apply And.right; apply And.right; apply And.right; apply And.right; apply And.right; assumption) | (apply And.right; apply And.right; apply And.right; apply And.right; apply And.right; apply And.right; assumption) | (apply And.right; apply And.right; apply And.right; apply And.right; apply And.right; apply And.right; apply And.right; assumption) | (apply And.right; apply And.right; apply And.right; apply And.right; apply And.right; apply And.right; apply And.right; apply And.right; assumption) | (apply And.right; apply And.right; apply And.right; apply And.right; apply And.right; apply And.right; apply And.right; apply And.right; apply And.right; assumption) | (apply And.right; apply And.right; apply And.right; apply And.right; apply And.right; apply And.right; apply And.right; apply And.right; apply And.right; apply And.right; assumption) | (apply And.right; apply And.right; apply And.right; apply And.right; apply And.right; apply And.right; apply And.right; apply And.right; apply And.right; apply And.right; apply And.right; assumption) | (apply And.right; apply And.right; apply And.right; apply And.right; apply And.right; apply And.right; apply And.right; apply And.right; apply And.right; apply And.right; apply And.right; apply And.right; assumption) | (apply And.right; apply And.right; apply And.right; apply And.right; apply And.right; apply And.right; apply And.right; apply And.right; apply And.right; apply And.right; apply And.right; apply And.right; apply And.right; assumption) | (apply And.right; apply And.right; apply And.right; apply And.right; apply And.right; apply And.right; apply And.right; apply And.right; apply And.right; apply And.right; apply And.right; apply And.right; apply And.right; apply And.right; assumption))))); (case r4 => (first | assumption | (refine lt_all ?_; (first | assumption | (apply And.right; assumption) | (apply And.right; apply And.right; assumption) | (apply And.right; apply And.right; apply And.right; assumption) | (apply And.right; apply And.right; apply And.right; apply And.right; assumption) | (apply And.right; apply And.right; apply And.right; apply And.right; apply And.right; assumption) | (apply And.right; apply And.right; apply And.right; apply And.right; apply And.right; apply And.right; assumption) | (apply And.right; apply And.right; apply And.right; apply And.right; apply And.right; apply And.right; apply And.right; assumption) | (apply And.right; apply And.right; apply And.right; apply And.right; apply And.right; apply And.right; apply And.right; apply And.right; assumption) | (apply And.right; apply And.right; apply And.right; apply And.right; apply And.right; apply And.right; apply And.right; apply And.right; apply And.right; assumption) | (apply And.right; apply And.right; apply And.right; apply And.right; apply And.right; apply And.right; apply And.right; apply And.right; apply And.right; apply And.right; assumption) | (apply And.right; apply And.right; apply And.right; apply And.right; apply And.right; apply And.right; apply And.right; apply And.right; apply And.right; apply And.right; apply And.right; assumption) | (apply And.right; apply And.right; apply And.right; apply And.right; apply And.right; apply And.right; apply And.right; apply And.right; apply And.right; apply And.right; apply And.right; apply And.right; assumption) | (apply And.right; apply And.right; apply And.right; apply And.right; apply And.right; apply And.right; apply And.right; apply And.right; apply And.right; apply And.right; apply And.right; apply And.right; apply And.right; assumption) | (apply And.right; apply And.right; apply And.right; apply And.right; apply And.right; apply And.right; apply And.right; apply And.right; apply And.right; apply And.right; apply And.right; apply And.right; apply And.right; apply And.right; assumption))))); (case r5 => (first | assumption | (refine lt_all ?_; (first | assumption | (apply And.right; assumption) | (apply And.right; apply And.right; assumption) | (apply And.right; apply And.right; apply And.right; assumption) | (apply And.right; apply And.right; apply And.right; apply And.right; assumption) | (apply And.right; apply And.right; apply And.right; apply And.right; apply And.right; assumption) | (apply And.right; apply And.right; apply And.right; apply And.right; apply And.right; apply And.right; assumption) | (apply And.right; apply And.right; apply And.right; apply And.right; apply And.right; apply And.right; apply And.right; assumption) | (apply And.right; apply And.right; apply And.right; apply And.right; apply And.right; apply And.right; apply And.right; apply And.right; assumption) | (apply And.right; apply And.right; apply And.right; apply And.right; apply And.right; apply And.right; apply And.right; apply And.right; apply And.right; assumption) | (apply And.right; apply And.right; apply And.right; apply And.right; apply And.right; apply And.right; apply And.right; apply And.right; apply And.right; apply And.right; assumption) | (apply And.right; apply And.right; apply And.right; apply And.right; apply And.right; apply And.right; apply And.right; apply And.right; apply And.right; apply And.right; apply And.right; assumption) | (apply And.right; apply And.right; apply And.right; apply And.right; apply And.right; apply And.right; apply And.right; apply And.right; apply And.right; apply And.right; apply And.right; apply And.right; assumption) | (apply And.right; apply And.right; apply And.right; apply And.right; apply And.right; apply And.right; apply And.right; apply And.right; apply And.right; apply And.right; apply And.right; apply And.right; apply And.right; assumption) | (apply And.right; apply And.right; apply And.right; apply And.right; apply And.right; apply And.right; apply And.right; apply And.right; apply And.right; apply And.right; apply And.right; apply And.right; apply And.right; apply And.right; assumption))))); (case r6 => (first | assumption | (refine lt_all ?_; (first | assumption | (apply And.right; assumption) | (apply And.right; apply And.right; assumption) | (apply And.right; apply And.right; apply And.right; assumption) | (apply And.right; apply And.right; apply And.right; apply And.right; assumption) | (apply And.right; apply And.right; apply And.right; apply And.right; apply And.right; assumption) | (apply And.right; apply And.right; apply And.right; apply And.right; apply And.right; apply And.right; assumption) | (apply And.right; apply And.right; apply And.right; apply And.right; apply And.right; apply And.right; apply And.right; assumption) | (apply And.right; apply And.right; apply And.right; apply And.right; apply And.right; apply And.right; apply And.right; apply And.right; assumption) | (apply And.right; apply And.right; apply And.right; apply And.right; apply And.right; apply And.right; apply And.right; apply And.right; apply And.right; assumption) | (apply And.right; apply And.right; apply And.right; apply And.right; apply And.right; apply And.right; apply And.right; apply And.right; apply And.right; apply And.right; assumption) | (apply And.right; apply And.right; apply And.right; apply And.right; apply And.right; apply And.right; apply And.right; apply And.right; apply And.right; apply And.right; apply And.right; assumption) | (apply And.right; apply And.right; apply And.right; apply And.right; apply And.right; apply And.right; apply And.right; apply And.right; apply And.right; apply And.right; apply And.right; apply And.right; assumption) | (apply And.right; apply And.right; apply And.right; apply And.right; apply And.right; apply And.right; apply And.right; apply And.right; apply And.right; apply And.right; apply And.right; apply And.right; apply And.right; assumption) | (apply And.right; apply And.right; apply And.right; apply And.right; apply And.right; apply And.right; apply And.right; apply And.right; apply And.right; apply And.right; apply And.right; apply And.right; apply And.right; apply And.right; assumption))))); (case i6 => (first | assumption | (refine lt_all ?_; (first | assumption | (apply And.right; assumption) | (apply And.right; apply And.right; assumption) | (apply And.right; apply And.right; apply And.right; assumption) | (apply And.right; apply And.right; apply And.right; apply And.right; assumption) | (apply And.right; apply And.right; apply And.right; apply And.right; apply And.right; assumption) | (apply And.right; apply And.right; apply And.right; apply And.right; apply And.right; apply And.right; assumption) | (apply And.right; apply And.right; apply And.right; apply And.right; apply And.right; apply And.right; apply And.right; assumption) | (apply And.right; apply And.right; apply And.right; apply And.right; apply And.right; apply And.right; apply And.right; apply And.right; assumption) | (apply And.right; apply And.right; apply And.right; apply And.right; apply And.right; apply And.right; apply And.right; apply And.right; apply And.right; assumption) | (apply And.right; apply And.right; apply And.right; apply And.right; apply And.right; apply And.right; apply And.right; apply And.right; apply And.right; apply And.right; assumption) | (apply And.right; apply And.right; apply And.right; apply And.right; apply And.right; apply And.right; apply And.right; apply And.right; apply And.right; apply And.right; apply And.right; assumption) | (apply And.right; apply And.right; apply And.right; apply And.right; apply And.right; apply And.right; apply And.right; apply And.right; apply And.right; apply And.right; apply And.right; apply And.right; assumption) | (apply And.right; apply And.right; apply And.right; apply And.right; apply And.right; apply And.right; apply And.right; apply And.right; apply And.right; apply And.right; apply And.right; apply And.right; apply And.right; assumption) | (apply And.right; apply And.right; apply And.right; apply And.right; apply And.right; apply And.right; apply And.right; apply And.right; apply And.right; apply And.right; apply And.right; apply And.right; apply And.right; apply And.right; assumption)))))))
set_option maxHeartbeats 8000000 in
theorem law_turn {w : World} {s : Shared} {base h : Heap} {loose : List Str} {mean : ExcName → Option Value} {mg mb : Str → Option Value} {L fa src I : Addr} {oI : Obj} {i tk : Nat} {t : Tok} {cd : Value} {m : Str → Option Value} {nx : List (Addr × Obj)}
    (X : (hd.heap_39 w.params).In base) (T : Top hd.view_39 loose mean mg mb base) (hi : i < 10) (J : LawJ w src i m nx) (hoff : ∀ p ∈ nx, p.1 ≠ I)
    (F : Fr base L h (fun y => if y = Str.ofString "turn" then some (.int (0 + i) t) else m y)) (N : News base L h ((I, oI) :: nx)) :
    wpAny (model Challenge.rw_pb0445_01.row.prog w) (Aro 350 3000) (execs lawFor (envOf (Str.ofString "law") lawScope L fa cd)) (TurnEnd base L I oI (LawJ w src (i + 1)) s) (fun _ _ => False) { s with heap := h, toks := tk } := by
  revert X
  k_fill
  intro X
  obtain ⟨σ, R, so, od, pvs, kd, lp, lt, ld, ts, tl, t1, t2, u1, u2, pn, ln, n1, n2, s1, s2, rfl, IL, hc, hso, hp, hdd, hdf, lo, ⟨q1, q2, q3, q4, q5⟩, ⟨r1, r2, r3, r4, r5, r6⟩, hm⟩ := J
  have F0 := fr_hasx F hm
  clear F hm
  obtain ⟨i1, hoff⟩ := off_at hoff
  obtain ⟨i2, hoff⟩ := off_at hoff
  obtain ⟨i3, hoff⟩ := off_at hoff
  obtain ⟨i4, hoff⟩ := off_at hoff
  obtain ⟨i5, hoff⟩ := off_at hoff
  obtain ⟨i6, r0⟩ := off_at hoff
  dsimp only at i1 i2 i3 i4 i5 i6
  have hix := IL.hix
  obtain ⟨a1, b1, c1, d1, e1, f1, g1, h1, j1, k1, x1, y1, z1, hdx⟩ := IL.hdx
  clear hoff
  have hl9 := IL.hl.1
  have hfl : σ.fr.length ≤ 500 := Nat.le_trans IL.hc2 (Nat.le_trans hc (Nat.le_trans (Nat.le_of_lt hi) (by decide)))
  have hcl : σ.cd.length ≤ 500 := Nat.le_trans IL.hc3 (Nat.le_trans hc (Nat.le_trans (Nat.le_of_lt hi) (by decide)))
  have hpl := hp.length
  have hcap : σ.cap ≤ 500 := Nat.le_trans hc (Nat.le_trans (Nat.le_of_lt hi) (by decide))
  replace q1 := neN q1; replace q2 := neN q2; replace q3 := neN q3; replace q4 := neN q4; replace q5 := neN q5
  replace i1 := neN i1; replace i2 := neN i2; replace i3 := neN i3; replace i4 := neN i4; replace i5 := neN i5; replace i6 := neN i6
  with_unfolding_all refine wpAny_execs_cons ?_
  k_steps
  all_goals unfold Stop
  all_goals walk_at "LAW END"
end Mine
end
section
namespace Mine
open PyProof.V PySem.Spec
local macro_rules | `(tactic| walk_at "pad 0") => `(tactic| fail)
local macro_rules | `(tactic| walk_at "pad 1") => `(tactic| fail)
local macro_rules | `(tactic| walk_at "pad 2") => `(tactic| fail)
local macro_rules | `(tactic| walk_at "pad 3") => `(tactic| fail)
local macro_rules | `(tactic| walk_at "pad 4") => `(tactic| fail)
local macro_rules | `(tactic| walk_at "pad 5") => `(tactic| fail)
local macro_rules | `(tactic| walk_at "pad 6") => `(tactic| fail)
local macro_rules | `(tactic| walk_at "pad 7") => `(tactic| fail)
local macro_rules | `(tactic| walk_at "pad 8") => `(tactic| fail)
local macro_rules | `(tactic| walk_at "pad 9") => `(tactic| fail)
local macro_rules | `(tactic| walk_at "pad 10") => `(tactic| fail)
theorem top_off_90 : True := by
  w_top off
  trivial
theorem law_start {P : Prop} {w : World} {base h : Heap} {L src lp lt ld ts : Addr} {so od : Obj} {m : Str → Option Value} {news R : List (Addr × Obj)} {σ : Ix} {tl t1 t2 u1 u2 : Tok} {pn ln n1 n2 : Nat}
    (IL : IxLed w σ R) (e1 : σ.fr = []) (e2 : σ.cd = []) (e3 : σ.last = 0) (e4 : σ.cap = 0) (F : Fr base L h m) (N : News base L h news)
    (hm : Has m [(Str.ofString "source", .ref src), (Str.ofString "index", .ref σ.ix), (Str.ofString "pages", .ref lp), (Str.ofString "told", .ref lt)]) (hs : Src so)
    (m0 : (src, so) ∈ news) (m1 : (lp, listOf #[] pn) ∈ news) (m2 : (lt, listOf #[Value.int 0 tl, .ref ld, .ref ts] ln) ∈ news) (m3 : (ld, od) ∈ news) (m4 : (ts, tupObj [.int 0 t1, .int 0 t2] n1) ∈ news) (m5 : (σ.sm, tupObj [.int 0 u1, .int 0 u2] n2) ∈ news) (m6 : ∀ p ∈ R, p ∈ news)
    (hdd : od.IsDictOf (intKind Challenge.rw_pb0445_01.row.prog w) []) (lo : (ld == sysModules) = false)
    (q1 : lp ≠ src) (q2 : lt ≠ src) (q3 : ld ≠ src) (q4 : ts ≠ src) (q5 : σ.sm ≠ src)
    (r1 : ∀ q ∈ R, q.1 ≠ src) (r2 : ∀ q ∈ R, q.1 ≠ lp) (r3 : ∀ q ∈ R, q.1 ≠ lt) (r4 : ∀ q ∈ R, q.1 ≠ ld) (r5 : ∀ q ∈ R, q.1 ≠ ts) (o2 : ∀ q ∈ R, q.1 < σ.sm)
    (k : ∀ nx, News base L h nx → LawJ w src 0 m nx → P) : P := by
  have m2' : (lt, listOf [Value.int σ.last tl, .ref ld, .ref ts].toArray ln) ∈ news := by rw [e3]; exact m2
  refine k _ (fun p hp => N p (sub_put m0 (sub_put m1 (sub_put m2' (sub_put m3 (sub_put m4 (sub_put m5 m6))))) p hp)) ⟨σ, R, so, od, [], [], lp, lt, ld, ts, tl, t1, t2, u1, u2, pn, ln, n1, n2, 0, 0, rfl, IL, Nat.le_of_eq e4, hs, e1 ▸ .nil, hdd, e2 ▸ .nil, lo, ⟨q1, q2, q3, q4, q5⟩, ⟨r1, r2, r3, r4, r5, fun q hq => Nat.ne_of_lt (o2 q hq)⟩, hm⟩
theorem fresh_r {R : List (Addr × Obj)} {p : Addr × Obj} {l : List (Addr × Obj)} (h : ∀ q ∈ R, ∀ x ∈ p :: l, x.1 < q.1) : ∀ q ∈ R, q.1 ≠ p.1 := fun q hq => Nat.ne_of_gt (h q hq _ (.head _))
local macro_rules | `(tactic| k_mem) => `(tactic| assumption)
local macro_rules | `(tactic| k_all) => `(tactic| assumption)
local macro_rules | `(tactic| walk_at "call ref") => `(tactic| (k_here; (with_reducible show wpAny _ _ (call (Value.ref 85) _) _ _ _); (refine' pool_use ?k1 ?k2 ?k3 ?k4 ?k5 ?k6 ?k7 ?k8 ?k9 ?k10 ?_; (case k1 => k_asm); (case k2 => k_asm); (case k3 => k_asm); (case k4 => k_asm); (case k5 => k_asm); (case k6 => k_asm); (case k7 => omega); (case k8 => rfl); (case k9 => exact Nat.le_of_ble_eq_true rfl); (case k10 => exact Nat.le_of_ble_eq_true rfl); intro src so h' tk' hs' F' N'; (try k_sweep))))
local macro_rules | `(tactic| walk_at "call ref") => `(tactic| (k_here; (with_reducible show wpAny _ _ (call (Value.ref 92) _) _ _ _); (refine' take_use ?k1 ?k2 ?k3 ?k4 ?k5 ?k6 ?k7 ?k7b ?k8 ?k9 ?k10 ?_; (case k1 => k_asm); (case k2 => k_asm); (case k3 => k_asm); (case k4 => k_asm); (case k5 => k_updF); (case k6 => k_asm); (case k7 => decide); (case k7b => decide); (case k8 => rfl); (case k9 => exact Nat.le_of_ble_eq_true rfl); (case k10 => exact Nat.le_of_ble_eq_true rfl); intro d td so' h' tk' hd0 hd1 hs' F' N'; (try dsimp only at N'); (try k_sweep))))
local macro_rules | `(tactic| walk_at "call ref") => `(tactic| (k_here; (show wpAny _ _ (call (Value.ref 74) []) _ _ _); (refine' make_use ?k1 ?k2 ?k3 ?k4 ?k5 ?k6 ?k7 ?k8 ?k9 ?k10 ?_; (case k1 => k_asm); (case k2 => k_asm); (case k3 => k_asm); (case k4 => k_asm); (case k5 => k_is); (case k6 => k_is); (case k7 => k_is); (case k8 => rfl); (case k9 => exact Nat.le_of_ble_eq_true rfl); (case k10 => exact Nat.le_of_ble_eq_true rfl); intro σ R t1 t2 n h' tk' I' e1 e2 e3 e4 F' N' o1 o2 o3; (have o4 := fresh_r o1); (have o5 := ltN (o3 _ (List.Mem.head _))); (dsimp only at o5); (try simp only [List.cons_append, List.nil_append] at N'); (try k_sweep))))
local macro_rules | `(tactic| walk_at "pyIter ref") => `(tactic| (with_reducible refine stop ?_))
set_option maxHeartbeats 8000000 in
theorem law_walk {w : World} {s : Shared} {base : Heap} {loose : List Str} {mean : ExcName → Option Value} {mg mb : Str → Option Value} {L fa l : Addr} {cd : Value} {vs : List Value} {ns : List Int}
    (X : (hd.heap_39 w.params).In base) (T : Top hd.view_39 loose mean mg mb base) (F : Fr base L s.heap (fun x => List.lookup x [(Str.ofString "script", Value.ref l)])) (hl : base.IsList l vs.toArray) (hi : IntsAre vs ns) (hlen : ns.length ≤ 63) {Q : Flow → Shared → Prop} (hret : ∀ h' tk' m', Fr base L h' m' → Q (.ret (.bool true)) { s with heap := h', toks := tk' }) :
    wpAny (model Challenge.rw_pb0445_01.row.prog w) (Aro 350 3000) (execs lawBody (envOf (Str.ofString "law") lawScope L fa cd)) Q (fun _ _ => False) s := by
  revert X
  k_fill
  intro X
  have N : News base L s.heap [] := .nil
  with_unfolding_all refine wpAny_execs_cons ?_
  k_steps
  unfold Stop
  rename IsRange _ _ _ _ _ _ _ _ => hR
  rename Fr _ _ _ _ => F9
  rename News _ _ _ _ => N9
  rename IxLed _ _ _ => I9
  rename Src _ => s9
  refine' law_start I9 ?e1 ?e2 ?e3 ?e4 F9 N9 ?hm s9 ?m0 ?m1 ?m2 ?m3 ?m4 ?m5 ?m6 ?hdd ?lo ?q1 ?q2 ?q3 ?q4 ?q5 ?r1 ?r2 ?r3 ?r4 ?r5 ?o2 ?k
  case e1 => assumption
  case e2 => assumption
  case e3 => assumption
  case e4 => assumption
  case hm => exact ⟨rfl, rfl, rfl, rfl, trivial⟩
  case m0 => k_mem
  case m1 => k_mem
  case m2 => k_mem
  case m3 => k_mem
  case m4 => k_mem
  case m5 => k_mem
  case m6 => (repeat (first | exact (fun _ h => h) | refine take_mem ?_))
  case hdd => assumption
  case lo => assumption
  case q1 => (first | assumption | (refine neN ?_; omega))
  case q2 => (first | assumption | (refine neN ?_; omega))
  case q3 => (first | assumption | (refine neN ?_; omega))
  case q4 => (first | assumption | (refine neN ?_; omega))
  case q5 => (first | assumption | (refine neN ?_; omega))
  case r1 => (first | assumption | (refine lt_all ?_; (first | assumption | (apply And.right; assumption) | (apply And.right; apply And.right; assumption) | (apply And.right; apply And.right; apply And.right; assumption) | (apply And.right; apply And.right; apply And.right; apply And.right; assumption) | (apply And.right; apply And.right; apply And.right; apply And.right; apply And.right; assumption) | (apply And.right; apply And.right; apply And.right; apply And.right; apply And.right; apply And.right; assumption) | (apply And.right; apply And.right; apply And.right; apply And.right; apply And.right; apply And.right; apply And.right; assumption) | (apply And.right; apply And.right; apply And.right; apply And.right; apply And.right; apply And.right; apply And.right; apply And.right; assumption) | (apply And.right; apply And.right; apply And.right; apply And.right; apply And.right; apply And.right; apply And.right; apply And.right; apply And.right; assumption) | (apply And.right; apply And.right; apply And.right; apply And.right; apply And.right; apply And.right; apply And.right; apply And.right; apply And.right; apply And.right; assumption) | (apply And.right; apply And.right; apply And.right; apply And.right; apply And.right; apply And.right; apply And.right; apply And.right; apply And.right; apply And.right; apply And.right; assumption) | (apply And.right; apply And.right; apply And.right; apply And.right; apply And.right; apply And.right; apply And.right; apply And.right; apply And.right; apply And.right; apply And.right; apply And.right; assumption) | (apply And.right; apply And.right; apply And.right; apply And.right; apply And.right; apply And.right; apply And.right; apply And.right; apply And.right; apply And.right; apply And.right; apply And.right; apply And.right; assumption) | (apply And.right; apply And.right; apply And.right; apply And.right; apply And.right; apply And.right; apply And.right; apply And.right; apply And.right; apply And.right; apply And.right; apply And.right; apply And.right; apply And.right; assumption))))
  case r2 => (first | assumption | (refine lt_all ?_; (first | assumption | (apply And.right; assumption) | (apply And.right; apply And.right; assumption) | (apply And.right; apply And.right; apply And.right; assumption) | (apply And.right; apply And.right; apply And.right; apply And.right; assumption) | (apply And.right; apply And.right; apply And.right; apply And.right; apply And.right; assumption) | (apply And.right; apply And.right; apply And.right; apply And.right; apply And.right; apply And.right; assumption) | (apply And.right; apply And.right; apply And.right; apply And.right; apply And.right; apply And.right; apply And.right; assumption) | (apply And.right; apply And.right; apply And.right; apply And.right; apply And.right; apply And.right; apply And.right; apply And.right; assumption) | (apply And.right; apply And.right; apply And.right; apply And.right; apply And.right; apply And.right; apply And.right; apply And.right; apply And.right; assumption) | (apply And.right; apply And.right; apply And.right; apply And.right; apply And.right; apply And.right; apply And.right; apply And.right; apply And.right; apply And.right; assumption) | (apply And.right; apply And.right; apply And.right; apply And.right; apply And.right; apply And.right; apply And.right; apply And.right; apply And.right; apply And.right; apply And.right; assumption) | (apply And.right; apply And.right; apply And.right; apply And.right; apply And.right; apply And.right; apply And.right; apply And.right; apply And.right; apply And.right; apply And.right; apply And.right; assumption) | (apply And.right; apply And.right; apply And.right; apply And.right; apply And.right; apply And.right; apply And.right; apply And.right; apply And.right; apply And.right; apply And.right; apply And.right; apply And.right; assumption) | (apply And.right; apply And.right; apply And.right; apply And.right; apply And.right; apply And.right; apply And.right; apply And.right; apply And.right; apply And.right; apply And.right; apply And.right; apply And.right; apply And.right; assumption))))
  case r3 => (first | assumption | (refine lt_all ?_; (first | assumption | (apply And.right; assumption) | (apply And.right; apply And.right; assumption) | (apply And.right; apply And.right; apply And.right; assumption) | (apply And.right; apply And.right; apply And.right; apply And.right; assumption) | (apply And.right; apply And.right; apply And.right; apply And.right; apply And.right; assumption) | (apply And.right; apply And.right; apply And.right; apply And.right; apply And.right; apply And.right; assumption) | (apply And.right; apply And.right; apply And.right; apply And.right; apply And.right; apply And.right; apply And.right; assumption) | (apply And.right; apply And.right; apply And.right; apply And.right; apply And.right; apply And.right; apply And.right; apply And.right; assumption) | (apply And.right; apply And.right; apply And.right; apply And.right; apply And.right; apply And.right; apply And.right; apply And.right; apply And.right; assumption) | (apply And.right; apply And.right; apply And.right; apply And.right; apply And.right; apply And.right; apply And.right; apply And.right; apply And.right; apply And.right; assumption) | (apply And.right; apply And.right; apply And.right; apply And.right; apply And.right; apply And.right; apply And.right; apply And.right; apply And.right; apply And.right; apply And.right; assumption) | (apply And.right; apply And.right; apply And.right; apply And.right; apply And.right; apply And.right; apply And.right; apply And.right; apply And.right; apply And.right; apply And.right; apply And.right; assumption) | (apply And.right; apply And.right; apply And.right; apply And.right; apply And.right; apply And.right; apply And.right; apply And.right; apply And.right; apply And.right; apply And.right; apply And.right; apply And.right; assumption) | (apply And.right; apply And.right; apply And.right; apply And.right; apply And.right; apply And.right; apply And.right; apply And.right; apply And.right; apply And.right; apply And.right; apply And.right; apply And.right; apply And.right; assumption))))
  case r4 => (first | assumption | (refine lt_all ?_; (first | assumption | (apply And.right; assumption) | (apply And.right; apply And.right; assumption) | (apply And.right; apply And.right; apply And.right; assumption) | (apply And.right; apply And.right; apply And.right; apply And.right; assumption) | (apply And.right; apply And.right; apply And.right; apply And.right; apply And.right; assumption) | (apply And.right; apply And.right; apply And.right; apply And.right; apply And.right; apply And.right; assumption) | (apply And.right; apply And.right; apply And.right; apply And.right; apply And.right; apply And.right; apply And.right; assumption) | (apply And.right; apply And.right; apply And.right; apply And.right; apply And.right; apply And.right; apply And.right; apply And.right; assumption) | (apply And.right; apply And.right; apply And.right; apply And.right; apply And.right; apply And.right; apply And.right; apply And.right; apply And.right; assumption) | (apply And.right; apply And.right; apply And.right; apply And.right; apply And.right; apply And.right; apply And.right; apply And.right; apply And.right; apply And.right; assumption) | (apply And.right; apply And.right; apply And.right; apply And.right; apply And.right; apply And.right; apply And.right; apply And.right; apply And.right; apply And.right; apply And.right; assumption) | (apply And.right; apply And.right; apply And.right; apply And.right; apply And.right; apply And.right; apply And.right; apply And.right; apply And.right; apply And.right; apply And.right; apply And.right; assumption) | (apply And.right; apply And.right; apply And.right; apply And.right; apply And.right; apply And.right; apply And.right; apply And.right; apply And.right; apply And.right; apply And.right; apply And.right; apply And.right; assumption) | (apply And.right; apply And.right; apply And.right; apply And.right; apply And.right; apply And.right; apply And.right; apply And.right; apply And.right; apply And.right; apply And.right; apply And.right; apply And.right; apply And.right; assumption))))
  case r5 => (first | assumption | (refine lt_all ?_; (first | assumption | (apply And.right; assumption) | (apply And.right; apply And.right; assumption) | (apply And.right; apply And.right; apply And.right; assumption) | (apply And.right; apply And.right; apply And.right; apply And.right; assumption) | (apply And.right; apply And.right; apply And.right; apply And.right; apply And.right; assumption) | (apply And.right; apply And.right; apply And.right; apply And.right; apply And.right; apply And.right; assumption) | (apply And.right; apply And.right; apply And.right; apply And.right; apply And.right; apply And.right; apply And.right; assumption) | (apply And.right; apply And.right; apply And.right; apply And.right; apply And.right; apply And.right; apply And.right; apply And.right; assumption) | (apply And.right; apply And.right; apply And.right; apply And.right; apply And.right; apply And.right; apply And.right; apply And.right; apply And.right; assumption) | (apply And.right; apply And.right; apply And.right; apply And.right; apply And.right; apply And.right; apply And.right; apply And.right; apply And.right; apply And.right; assumption) | (apply And.right; apply And.right; apply And.right; apply And.right; apply And.right; apply And.right; apply And.right; apply And.right; apply And.right; apply And.right; apply And.right; assumption) | (apply And.right; apply And.right; apply And.right; apply And.right; apply And.right; apply And.right; apply And.right; apply And.right; apply And.right; apply And.right; apply And.right; apply And.right; assumption) | (apply And.right; apply And.right; apply And.right; apply And.right; apply And.right; apply And.right; apply And.right; apply And.right; apply And.right; apply And.right; apply And.right; apply And.right; apply And.right; assumption) | (apply And.right; apply And.right; apply And.right; apply And.right; apply And.right; apply And.right; apply And.right; apply And.right; apply And.right; apply And.right; apply And.right; apply And.right; apply And.right; apply And.right; assumption))))
  case o2 => assumption
  case k =>
    intro nx Nx Jx
    refine' range_loop (LawJ w _) rfl hR ?ha ?hb F9 Nx Jx ?turn ?done
    case ha => omega
    case hb => omega
    case turn =>
      intro i t m₁ news₁ h tk I oI hi J hoff hI F1 N1
      have hi' : i < 10 := by omega
      with_unfolding_all exact law_turn X T hi' J hoff F1 N1
    case done =>
      intro m₁ news₁ h tk J F1 N1
      clear F9 N9 Nx
      k_steps
      rename Fr _ _ _ _ => F7
      exact hret _ _ _ F7
end Mine
end
set_option maxHeartbeats 8000000 in
theorem PySem.Challenge.cw_pb0445_01_holds : PySem.Challenge.rw_pb0445_01.Holds := by
  refine Mine.hd ?_
  k_go0
  with_unfolding_all refine' Mine.aro 350 3000 (Mine.law_walk ?X ?T ?F ?hl ?hi ?hlen ?hret) ?hh ?hd ?hu
  case X => assumption
  case T => assumption
  case F => assumption
  case hl => assumption
  case hi => assumption
  case hlen => omega
  case hh => exact rfl
  case hd => exact Nat.le_of_ble_eq_true rfl
  case hu => exact Nat.le_of_ble_eq_true rfl
  case hret =>
    intro h' tk' m' F'
    dsimp only
    k_steps
