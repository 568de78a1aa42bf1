import PyProof.Rows.All
import Wide.All
import OpenK.AllK
import Wide.FinOn
import Lean
import PySem.Challenge.RW_xm0754_01
set_option Elab.async false
set_option maxRecDepth 100000
open PySem PySem.W PyProof.Rows

/-! LTop -/
namespace Mine
section PartLTop
theorem through_endAt (t : Thread) : through t = (endAt 0 t).isSome := by
  obtain ⟨cur, code, pos, stack⟩ := t
  unfold through endAt
  cases stack with
  | cons a l => rfl
  | nil =>
    cases cur with
    | pure f => cases f <;> rfl
    | _ => rfl
theorem run_of_seg {tb : String → Option Builtin} {p : Program} {w : World} {n₀ : Nat} {ann : Option Value} : ∀ {n : Nat} {s s' : Shared} {t : Thread} {f : Flow} {c : Code} {q : Pos},
    segRun tb p w n₀ ann 0 n s t = some (f, s', c, q) → topRun tb p w n₀ ann n s t = some s'
  | 0, _, _, _, _, _, _, h => by cases h
  | n + 1, s, s', t, f, c, q, h => by
    unfold segRun at h
    unfold topRun
    rw [through_endAt]
    cases he : endAt 0 t with
    | some x => rw [he] at h; cases h; rfl
    | none =>
      rw [he] at h
      dsimp only [Option.isSome_none] at h ⊢
      cases hk : stepOk n₀ ann t with
      | false => rw [hk] at h; cases h
      | true =>
        rw [hk] at h
        dsimp only at h ⊢
        cases hs : step (denote tb) p w s t with
        | halt o s2 => rw [hs] at h; cases h
        | go s2 t2 => rw [hs] at h; exact run_of_seg h

/-- the booted heap as a tree -/
noncomputable def bootT (P : Params) : BT := (((((((((((BT.nil.ins 0 (boot_o_0 P)).ins 1 (boot_o_1 P)).ins 2 (boot_o_2 P)).ins 3 (boot_o_3 P)).ins 4 (boot_o_4 P)).ins 5 (boot_o_5 P)).ins 6 (boot_o_6 P)).ins 7 (boot_o_7 P)).ins 8 (boot_o_8 P)).ins 9 (boot_o_9 P)).ins 10 (boot_o_10 P))
theorem bootT_abs (P : Params) : absHeap (bootT P) 11 {} = boot_heap P := by kernel_rfl
/-- the top's run from the booted heap, and what is asked of its end -/
noncomputable def lookEnd (p q : Program) (R : WRecords) (as : List Addr) (w : World) (os : OsState) :=
  (segRunT treeTable p w 11 (some (.ref 6)) 0 2152 ⟨bootT w.params, 11, {}, Array.mk [], boot_drawn, boot_toks, os⟩ (topStub p)).map fun r =>
    ((staticsOk (importedModules p.main.body) (boot_heap w.params) r.2.1.abs.heap && namesBound p r.2.1.abs.heap && gensDone r.2.1.abs && laidKept (boot_heap w.params) r.2.1.abs.heap),
      openSeen q [] (importedModules p.main.body) (fun s => xlAt q [] s && recOk R s) true r.2.1.abs, as.map r.2.1.abs.heap.get?)
noncomputable def lookGood (q : Program) (K : Params → Frag) (w : World) := some (true, openGood q [], (K w.params).map fun p => some p.2)
theorem left_of_look {p q : Program} {R : WRecords} {as : List Addr} {K : Params → Frag} {N : Nat} (e : opening p = plainProg p.main.scope.names) (hN : Nat.ble 600 N = true) (hM : Nat.ble 2152 N = true) (f : ∀ s, fenceModules? p s = some s)
    (h : ∀ w os, lookEnd p q R as w os = lookGood q K w) : LeftO p q [] (fun s => xlAt q [] s && recOk R s) (fun s => as.map s.heap.get?) (fun w => (K w.params).map fun p => some p.2) N := fun w => by
  obtain ⟨⟨hp, gs, d, k, os⟩, e1, e2⟩ := Option.map_eq_some_iff.mp (boot_open e hN f w)
  obtain ⟨rfl, rfl, rfl, rfl⟩ : hp = boot_heap w.params ∧ gs = Array.mk [] ∧ d = boot_drawn ∧ k = boot_toks := by simpa using e2
  obtain ⟨⟨fl, s, c, pos⟩, h1, h2⟩ := Option.map_eq_some_iff.mp (h w os)
  have r := run_of_seg (segRun_of h1)
  rw [show SharedT.abs ⟨bootT w.params, 11, {}, Array.mk [], boot_drawn, boot_toks, os⟩ = ⟨boot_heap w.params, Array.mk [], boot_drawn, boot_toks, os⟩ by unfold SharedT.abs; rw [bootT_abs]] at r
  have r' := topRun_mono (N - 2152) _ _ _ _ r
  rw [show 2152 + (N - 2152) = N by have := Nat.le_of_ble_eq_true hM; omega] at r'
  obtain ⟨l1, l2, l3⟩ : _ ∧ _ ∧ _ := by simpa only [Prod.mk.injEq] using h2
  have t : topFrom treeTable p w N ⟨boot_heap w.params, Array.mk [], boot_drawn, boot_toks, os⟩ = some s.abs := by
    unfold topFrom
    have z1 : ((boot_heap w.params).isNs mainGlobals && (Array.mk ([] : List GenState)).size == 0) = true := by kernel_rfl
    have z2 : (boot_heap w.params).objs.size = 11 := by kernel_rfl
    have z3 : (boot_heap w.params).nsMap mainGlobals "__annotations__" = some (.ref 6) := by kernel_rfl
    dsimp only
    rw [z1, z2, z3, r']
    show (match staticsOk (importedModules p.main.body) (boot_heap w.params) s.abs.heap && namesBound p s.abs.heap && gensDone s.abs && laidKept (boot_heap w.params) s.abs.heap with | true => some s.abs | false => none) = _
    rw [l1]
  unfold openEnds
  rw [e1]
  show (topFrom treeTable p w N _).map _ = _
  rw [t]
  exact congrArg some (Prod.ext l2 l3)
noncomputable def vw : Program := view PySem.Challenge.pw_xm0754_01 [0, 2, 3, 4, 5, 6, 7, 8, 9, 10, 12, 13, 14, 16, 18, 20, 22, 23, 24, 25, 26, 27, 28, 29]
section
local macro_rules | `(tactic| o_head $H) => `(tactic| (
  refine holds_open (q := Mine.vw) (loose := []) (Xt := fun s => xlAt Mine.vw [] s && recOk (RowW.records (OpenRow.toRowW PySem.Challenge.rw_xm0754_01.row)) s) (XP := XL Mine.vw []) (Yf := Hook.obs $H) (Ya := Hook.val $H) (YP := Hook.says $H) (N := 4386) ?hl (Hook.of $H) (Hook.keeps $H) (fun s e => xl_of s (Bool.and_eq_true_iff.mp e).1) XL.keeps (by rfl) (by rfl) (by rfl) (fun s e => recFacts_of (Bool.and_eq_true_iff.mp e).2) (by rfl) (by first | assumption | decide +kernel) (by decide +kernel) ⟨rfl, rfl, rfl, rfl, rfl, by decide +kernel⟩ ?hw ?hc
  case hl =>
    refine left_of_look (by kernel_rfl) (by decide) (by decide) (fun _ => by kernel_rfl) (fun w os => ?_)
    unfold Mine.lookEnd Mine.lookGood
    rw [PySem.W.Fast.te5923862056798008813, PySem.W.Fast.te4187177175401517315, PySem.W.Fast.te10110043849684766642, PySem.W.Fast.te14364793385576792824]
    kernel_rfl))
set_option maxHeartbeats 8000000 in
open_top hd for PySem.Challenge.rw_xm0754_01
end
end PartLTop
end Mine

/-! LRules -/
namespace Mine
section PartLRules
open PySem.Spec PySem.Calls
local macro_rules | `(tactic| walk_at "no key 0") => `(tactic| skip)
abbrev TopOf (mean : ExcName → Option Value) (mg mb : Str → Option Value) (h : Heap) : Prop := Top vw (looseW vw []) mean mg mb h
abbrev Led := List (Addr × Obj)

theorem mem_of_mem {α : Type} {a : α} {l : List α} (h : a ∈ l) : List.Mem a l := h
theorem ne2 {a b c : Addr} (h : ¬ a = b ∧ ¬ a = c) : (@Ne Nat a b) ∧ (@Ne Nat a c) := h
theorem ne1 {a b : Addr} (h : a ≠ b) : (@Ne Nat a b) := h
/-- where it stands in the context the lines of this file serve -/
structure MyMark : Prop where
/-- the walk stops here -/
def Stop (P : Prop) : Prop := P
theorem stop {P : Prop} (h : Stop P) : P := h

section
variable {prog : Program} {w : World} {A : Around} {E : Value → Shared → Prop} {s : Shared} {h₀ : Heap} {L : Addr} {m : Str → Option Value} {env : Env}

/-- a list against an empty one: by its length -/
theorem ne_nil {a b : Addr} {xs ys : Array Value} {Q : Value → Shared → Prop} (ha : s.heap.IsList a xs) (hb : s.heap.IsList b ys) (hy : ys.size = 0) (hu : A.units < cLine)
    (h : Q (.bool (decide (xs.size ≠ 0))) s) : wpAny (model prog w) A (compareOp .NotEq (.ref a) (.ref b)) Q E s := by
  refine cmp_ofNotEq ?_
  by_cases hx : xs.size = 0
  · refine SeqAt.RcNeAt.lists (e := fun _ => true) ha hb (by omega) hu (fun j h1 _ => absurd h1 (by omega)) prog w E Q ?_
    rw [hx]
    simpa [hx] using h
  · refine SeqAt.RcNeAt.lists_lengths ha hb (by rw [hy]; simpa using hx) hu prog w E Q ?_
    simpa [hx] using h

/-- a comprehension whose turns make objects: what each value is, over the ledger as it then stands -/
theorem comp_objs {elt : Expr} {x : Str} {scope : Scope} {cl : List (Str × Addr)} {S : Led → Prop} {P : Nat → Value → Prop} {Fin : List Value → Led → Prop} {n : Nat} {news : Led} (El : Led → Value → Prop)
    (mono : ∀ nw nw' y, (∀ p ∈ nw, p ∈ nw') → El nw y → El nw' y)
    (turn : ∀ v I oI C oC D m₂ ys nw h tk (E' : Value → Shared → Prop), LCg.NsObj oC m₂ → m₂ x = some v → Fr h₀ L h m → News h₀ L h ((I, oI) :: (C, oC) :: (D, LCg.lst ys) :: nw) → (∀ p ∈ news, p ∈ nw) → LCg.Off3 I C D nw → ((@Ne Nat I C) ∧ (@Ne Nat I D) ∧ (@Ne Nat C D)) →
      wpAny (model prog w) A (eval elt (compEnvC scope cl C env)) (LCg.CompEnd h₀ L m { s with heap := h, toks := tk } I oI C oC D (LCg.lst ys) S (fun y news' => (∀ p ∈ nw, p ∈ news') ∧ El news' y)) E' { s with heap := h, toks := tk })
    (fin : ∀ ys nw, (∀ p ∈ news, p ∈ nw) → ys.length = n → (∀ y ∈ ys, El nw y) → Fin ys nw) : LCg.CompRest prog w A h₀ L m env elt x scope cl s S P Fin n 0 [] news := by
  have all : ∀ j i ys nw, i + j = n → ys.length = i → (∀ p ∈ news, p ∈ nw) → (∀ y ∈ ys, El nw y) → LCg.CompRest prog w A h₀ L m env elt x scope cl s S P Fin j i ys nw := by
    intro j
    induction j with
    | zero => exact fun i ys nw hi hl hs he => LCg.CompRest.zero (fin ys nw hs (by omega) he)
    | succ j ih =>
      intro i ys nw hi hl hs he
      refine LCg.CompRest.succ fun v I oI C oC D m₂ h tk E' _ hC hx F N off ne => ?_
      refine wpAny_mono (turn v I oI C oC D m₂ ys nw h tk E' hC hx F N hs off ne) (fun y s₂ hq => ?_) fun _ _ e => e
      obtain ⟨h', tk', nw', e, F', N', off', hS, hsub, hel⟩ := hq
      refine ⟨h', tk', nw', e, F', N', off', hS, ih (i + 1) (ys ++ [y]) nw' (by omega) (by simp [hl]) (fun p hp => hsub p (hs p hp)) fun z hz => ?_⟩
      rcases List.mem_append.mp hz with hz | hz
      · exact mono nw nw' z hsub (he z hz)
      · rw [List.mem_singleton.mp hz]; exact hel
  exact all n 0 [] news (by omega) rfl (fun _ hp => hp) fun _ h => nomatch h

theorem off3_cons {I C D : Addr} {a : Addr} {o : Obj} {r : Led} (h1 : (@Ne Nat a I)) (h2 : (@Ne Nat a C)) (h3 : (@Ne Nat a D)) (h : LCg.Off3 I C D r) : LCg.Off3 I C D ((a, o) :: r) := ⟨⟨h1, h2, h3⟩, h⟩

theorem all_ne {d : Addr} {nw : Led} (h : AllLt d nw) : ∀ p ∈ nw, p.1 ≠ d := fun p hp => Nat.ne_of_lt (ktn_ltOf h p hp)

/-- what a turn of «iter_vals» hands on -/
def TurnEnd2 (h₀ : Heap) (L : Addr) (fix : Led) (off : List Addr) (J : (Str → Option Value) → Led → Prop) (s₁ s₂ : Shared) : Prop :=
  ∃ h' tk m' nx, s₂ = { s₁ with heap := h', toks := tk } ∧ Fr h₀ L h' m' ∧ News h₀ L h' (fix ++ nx) ∧ (∀ p ∈ nx, p.1 ∉ off) ∧ J m' nx
def TurnPost2 (h₀ : Heap) (L : Addr) (fix : Led) (off : List Addr) (J : (Str → Option Value) → Led → Prop) (s₁ : Shared) (Q : Flow → Shared → Prop) (f : Flow) (s₂ : Shared) : Prop :=
  match f with
  | .ret v => Q (.ret v) s₂
  | .brk => Q .next s₂
  | _ => TurnEnd2 h₀ L fix off J s₁ s₂

/-- a loop over a list of the ledger, whatever it holds, by an invariant over the frame's map and the rest of the ledger -/
theorem iter_vals {x : Str} {body : List Stmt} {Q : Flow → Shared → Prop} {l : Addr} {vs : List Value} {n : Nat} {m₀ : Str → Option Value} {news : Led} (J : Nat → (Str → Option Value) → Led → Prop)
    (hh : A.handled = none) (F : Fr h₀ env.locals s.heap m₀) (N : News h₀ env.locals s.heap ((l, listOf vs.toArray n) :: news)) (hoff : ∀ p ∈ news, p.1 ≠ l) (hj : J 0 m₀ news)
    (turn : ∀ i v m₁ nx h tk I oI, vs[i]? = some v → J i m₁ nx → (∀ p ∈ nx, p.1 ∉ [I, l]) → I ≠ l → Fr h₀ env.locals h (fun y => if y = x then some v else m₁ y) → News h₀ env.locals h ((I, oI) :: (l, listOf vs.toArray n) :: nx) →
      wpAny (model prog w) A (execs body env) (TurnPost2 h₀ env.locals [(I, oI), (l, listOf vs.toArray n)] [I, l] (J (i + 1)) { s with heap := h, toks := tk } Q) E { s with heap := h, toks := tk })
    (done : ∀ m₁ nx h tk, J vs.length m₁ nx → (∀ p ∈ nx, p.1 ≠ l) → Fr h₀ env.locals h m₁ → News h₀ env.locals h ((l, listOf vs.toArray n) :: nx) → Q .next { s with heap := h, toks := tk }) :
    wpAny (model prog w) A (pyIter (.ref l)) (fun it s₂ => LoopAtV prog w A h₀ env x body Q E it s₂) E s := by
  have hm : (l, listOf vs.toArray n) ∈ (l, listOf vs.toArray n) :: news := List.mem_cons_self
  have hol := (N _ hm).1
  have hls : s.heap.IsList l vs.toArray := ⟨_, hol, rfl, n, rfl⟩
  have hlt : l < s.heap.objs.size := Heap.lt_size hol
  have hlI : l ≠ s.heap.objs.size := Nat.ne_of_lt hlt
  have hLI : env.locals ≠ s.heap.objs.size := Nat.ne_of_lt F.ns.lt
  refine wpAny_pyIter_list hls ?_
  have W := Walks.list (prog := prog) (w := w) hh s.heap.objs.size l hlI vs.toArray
  rw [List.size_toArray] at W
  refine ⟨_, _, _, vs.length, _, _, m₀, (l, listOf vs.toArray n) :: news, (fun i m nx => ∃ r, nx = (l, listOf vs.toArray n) :: r ∧ (∀ p ∈ r, p.1 ∉ [s.heap.objs.size, l]) ∧ J i m r), rfl, W, ?_, ?_, ?_, ⟨⟨_, Heap.get?_push_size _ rfl, rfl, rfl⟩, hls.at fun o e => Heap.get?_push_of_some _ e⟩, F.push _,
    (fun p hp => ⟨Heap.get?_push_of_some _ (N p hp).1, (N p hp).2⟩), ⟨news, rfl, ?_, hj⟩, ?_, ?_⟩
  · intro h
    rcases List.mem_cons.mp h with e | h
    · exact hLI e
    · exact (N _ hm).2.1 (List.mem_singleton.mp h).symm
  · intro b hb
    rw [List.mem_singleton.mp hb]
    exact next_is_new F
  · intro p hp hI
    exact absurd (Heap.lt_size (N p hp).1) ((List.mem_singleton.mp hI) ▸ Nat.lt_irrefl _)
  · intro p hp h
    rcases List.mem_cons.mp h with e | h
    · exact absurd (Heap.lt_size (N p (List.mem_cons_of_mem _ hp)).1) (e ▸ Nat.lt_irrefl _)
    · exact hoff p hp (List.mem_singleton.mp h)
  · rintro i v m₁ nx s₁ own ⟨h, tk, rfl⟩ hi hP ⟨r, rfl, hr, hJ⟩ _ hown hget hin hst F₁ N₁
    obtain ⟨⟨oI, heI, _⟩, _⟩ := hst
    have hIo : (s.heap.objs.size, oI) ∈ own := hin _ List.mem_cons_self (next_is_new F) _ heI
    have hv : vs[i]? = some v := by simpa using hP
    have N₂ : News h₀ env.locals h ((s.heap.objs.size, oI) :: (l, listOf vs.toArray n) :: r) := fun p hp => by
      rcases List.mem_cons.mp hp with rfl | hp
      · exact N₁ _ (List.mem_append.mpr (.inl hIo))
      · exact N₁ _ (List.mem_append.mpr (.inr hp))
    refine wpAny_mono (turn i v m₁ r h tk _ oI hv hJ hr (Ne.symm hlI) F₁ N₂) (fun f s₂ p => ?_) fun _ _ e => e
    have fin : TurnEnd2 h₀ env.locals [(s.heap.objs.size, oI), (l, listOf vs.toArray n)] [s.heap.objs.size, l] (J (i + 1)) { s with heap := h, toks := tk } s₂ →
        LoopStepU h₀ env.locals [s.heap.objs.size] own (fun m nx => ∃ r, nx = (l, listOf vs.toArray n) :: r ∧ (∀ p ∈ r, p.1 ∉ [s.heap.objs.size, l]) ∧ J (i + 1) m r) { s with heap := h, toks := tk } .next s₂ := by
      rintro ⟨h', tk', m', nx, e, F', N', ho, hJ'⟩
      refine ⟨rfl, h', tk', m', (l, listOf vs.toArray n) :: nx, e, F', fun p hp => ?_, fun p hp hI => ?_, nx, rfl, ho, hJ'⟩
      · rcases List.mem_append.mp hp with hp | hp
        · have hg : h.get? p.1 = some p.2 := hget p hp
          rcases List.mem_cons.mp (hown p hp) with q | q
          · rw [q, heI] at hg
            have e2 : p = (s.heap.objs.size, oI) := Prod.ext q (Option.some.inj hg).symm
            rw [e2]
            exact N' _ List.mem_cons_self
          · have q := List.mem_singleton.mp q
            rw [q, (N₂ _ (List.mem_cons_of_mem _ List.mem_cons_self)).1] at hg
            have e2 : p = (l, listOf vs.toArray n) := Prod.ext q (Option.some.inj hg).symm
            rw [e2]
            exact N' _ (List.mem_cons_of_mem _ List.mem_cons_self)
        · exact N' _ (List.mem_cons_of_mem _ hp)
      · have hI := List.mem_singleton.mp hI
        rcases List.mem_cons.mp hp with rfl | hp
        · exact hlI hI
        · exact ho p hp (hI ▸ List.mem_cons_self)
    cases f with
    | ret v => exact .ret p
    | brk => exact .brk p
    | next => exact .next (fin p)
    | cont => exact .cont (fin p)
  · rintro h' tk m' nx F' N' _ ⟨r, rfl, hr, hJ⟩
    exact done m' r h' tk hJ (fun p hp e => hr p hp (e ▸ List.mem_cons_of_mem _ List.mem_cons_self)) F' N'

/-- the same, where the body stores no name but the loop's own -/
theorem iter_vals0 {x : Str} {body : List Stmt} {Q : Flow → Shared → Prop} {l : Addr} {vs : List Value} {n : Nat} {m₀ : Str → Option Value} {news : Led} (J : Nat → Led → Prop)
    (hh : A.handled = none) (F : Fr h₀ env.locals s.heap m₀) (N : News h₀ env.locals s.heap ((l, listOf vs.toArray n) :: news)) (hoff : ∀ p ∈ news, p.1 ≠ l) (hj : J 0 news)
    (turn : ∀ i v nx h tk I oI, vs[i]? = some v → J i nx → (∀ p ∈ nx, p.1 ∉ [I, l]) → I ≠ l → Fr h₀ env.locals h (fun y => if y = x then some v else m₀ y) → News h₀ env.locals h ((I, oI) :: (l, listOf vs.toArray n) :: nx) →
      wpAny (model prog w) A (execs body env) (TurnPost2 h₀ env.locals [(I, oI), (l, listOf vs.toArray n)] [I, l] (fun m' nx => (∀ z, z ≠ x → m' z = m₀ z) ∧ J (i + 1) nx) { s with heap := h, toks := tk } Q) E { s with heap := h, toks := tk })
    (done : ∀ (u : Str → Option Value) nx h tk, J vs.length nx → (∀ p ∈ nx, p.1 ≠ l) → Fr h₀ env.locals h (fun y => if y = x then u y else m₀ y) → News h₀ env.locals h ((l, listOf vs.toArray n) :: nx) → Q .next { s with heap := h, toks := tk }) :
    wpAny (model prog w) A (pyIter (.ref l)) (fun it s₂ => LoopAtV prog w A h₀ env x body Q E it s₂) E s := by
  refine iter_vals (fun i m nx => (∀ z, z ≠ x → m z = m₀ z) ∧ J i nx) hh F N hoff ⟨fun _ _ => rfl, hj⟩ ?_ ?_
  · rintro i v m₁ nx h tk I oI hv ⟨hm, hJ⟩ ho hI F₁ N₁
    have e : (fun y => if y = x then some v else m₁ y) = fun y => if y = x then some v else m₀ y := by
      funext y
      by_cases h1 : y = x
      · simp [h1]
      · simp only [if_neg h1]; exact hm y h1
    rw [e] at F₁
    exact turn i v nx h tk I oI hv hJ ho hI F₁ N₁
  · rintro m₁ nx h tk ⟨hm, hJ⟩ ho F₁ N₁
    have e : (fun y => if y = x then m₁ y else m₀ y) = m₁ := by
      funext y
      by_cases h1 : y = x
      · simp [h1]
      · simp only [if_neg h1]; exact (hm y h1).symm
    exact done m₁ nx h tk hJ ho (e.symm ▸ F₁) N₁

/-- the same, where the body turns one int besides, and nothing of the ledger -/
theorem iter_valsI {x y : Str} {body : List Stmt} {Q : Flow → Shared → Prop} {l : Addr} {vs : List Value} {n : Nat} {m₀ : Str → Option Value} {news : Led} (g : Nat → Int)
    (hh : A.handled = none) (F : Fr h₀ env.locals s.heap m₀) (N : News h₀ env.locals s.heap ((l, listOf vs.toArray n) :: news)) (hoff : ∀ p ∈ news, p.1 ≠ l) (hy : ∃ t, m₀ y = some (.int (g 0) t))
    (turn : ∀ i v t h tk I oI, i < vs.length → (∀ p ∈ news, p.1 ≠ I) → I ≠ l → Fr h₀ env.locals h (fun z => if z = x then some v else if z = y then some (.int (g i) t) else m₀ z) → News h₀ env.locals h ((I, oI) :: (l, listOf vs.toArray n) :: news) →
      wpAny (model prog w) A (execs body env) (TurnPost2 h₀ env.locals [(I, oI), (l, listOf vs.toArray n)] [I, l] (fun m' nx => ((∀ z, z ≠ x → z ≠ y → m' z = m₀ z) ∧ ∃ t, m' y = some (.int (g (i + 1)) t)) ∧ nx = news) { s with heap := h, toks := tk } Q) E { s with heap := h, toks := tk })
    (done : ∀ (u : Str → Option Value) t h tk, Fr h₀ env.locals h (fun z => if z = x then u z else if z = y then some (.int (g vs.length) t) else m₀ z) → News h₀ env.locals h ((l, listOf vs.toArray n) :: news) → Q .next { s with heap := h, toks := tk }) (hxy : y ≠ x) :
    wpAny (model prog w) A (pyIter (.ref l)) (fun it s₂ => LoopAtV prog w A h₀ env x body Q E it s₂) E s := by
  refine iter_vals (fun i m nx => ((∀ z, z ≠ x → z ≠ y → m z = m₀ z) ∧ ∃ t, m y = some (.int (g i) t)) ∧ nx = news) hh F N hoff ⟨⟨fun _ _ _ => rfl, hy⟩, rfl⟩ ?_ ?_
  · rintro i v m₁ nx h tk I oI hv ⟨⟨hm, t, ht⟩, rfl⟩ ho hI F₁ N₁
    have e : (fun z => if z = x then some v else m₁ z) = fun z => if z = x then some v else if z = y then some (Value.int (g i) t) else m₀ z := by
      funext z
      by_cases h1 : z = x
      · simp [h1]
      · simp only [if_neg h1]
        by_cases h2 : z = y
        · simp [h2, ht]
        · simp only [if_neg h2]; exact hm z h1 h2
    rw [e] at F₁
    have hi : i < vs.length := (List.getElem?_eq_some_iff.mp hv).1
    exact turn i v t h tk I oI hi (fun p hp q => ho p hp (q ▸ List.mem_cons_self)) hI F₁ N₁
  · rintro m₁ nx h tk ⟨⟨hm, t, ht⟩, rfl⟩ _ F₁ N₁
    have e : (fun z => if z = x then m₁ z else if z = y then some (Value.int (g vs.length) t) else m₀ z) = m₁ := by
      funext z
      by_cases h1 : z = x
      · simp [h1]
      · simp only [if_neg h1]
        by_cases h2 : z = y
        · simp [h2, ht]
        · simp only [if_neg h2]; exact (hm z h1 h2).symm
    exact done m₁ t h tk (e.symm ▸ F₁) N₁

theorem comp_keep2 {m : Str → Option Value} {s₁ : Shared} {I C D : Addr} {oI oC oD : Obj} {rest : Value → Led → Prop} {y : Value} {h' : Heap} {tk : Nat} {c d : Addr} {oc od : Obj} {nw : Led}
    (F : Fr h₀ L h' m) (N : News h₀ L h' ((c, oc) :: (d, od) :: (I, oI) :: (C, oC) :: (D, oD) :: nw)) (off : LCg.Off3 I C D nw)
    (h1 : @LT.lt Nat _ I d ∧ @LT.lt Nat _ C d ∧ @LT.lt Nat _ D d) (h2 : @LT.lt Nat _ d c) (r : rest y ((c, oc) :: (d, od) :: nw)) :
    LCg.CompEnd h₀ L m s₁ I oI C oC D oD (fun _ => True) rest y { s₁ with heap := h', toks := tk } := by
  refine LCg.CompEnd.intro F N ((c, oc) :: (d, od) :: nw) ?_ ?_ trivial r
  · intro p hp
    simp only [List.mem_cons] at hp ⊢
    rcases hp with h | h | h | h | h | h <;> simp [h]
  · exact off3_cons (by omega) (by omega) (by omega) (off3_cons (by omega) (by omega) (by omega) off)
/-- a turn that made nothing that is kept -/
theorem comp_end0 {m : Str → Option Value} {s₁ : Shared} {I C D : Addr} {oI oC oD : Obj} {rest : Value → Led → Prop} {y : Value} {h' : Heap} {tk : Nat} {nw : Led}
    (F : Fr h₀ L h' m) (N : News h₀ L h' ((I, oI) :: (C, oC) :: (D, oD) :: nw)) (off : LCg.Off3 I C D nw) (r : rest y nw) :
    LCg.CompEnd h₀ L m s₁ I oI C oC D oD (fun _ => True) rest y { s₁ with heap := h', toks := tk } :=
  LCg.CompEnd.intro F N nw (fun p hp => hp) off trivial r

def PutJ (af eq : Addr) (R : Led) (i : Nat) (nx : Led) : Prop := ∃ (us vs : List Value) (k k' : Nat), us.length = i ∧ vs.length = i ∧ nx = (af, listOf us.toArray k) :: (eq, listOf vs.toArray k') :: R
theorem put_start {h : Heap} {af eq D : Addr} {a b : Addr × Obj} {ys : List Value} {nw : Led} (N : News h₀ L h ((af, listOf #[] 0) :: (eq, listOf #[] 0) :: a :: b :: (D, LCg.lst ys) :: nw)) :
    News h₀ L h ((D, listOf ys.toArray ys.length) :: (af, listOf [].toArray 0) :: (eq, listOf [].toArray 0) :: a :: b :: nw) := fun p hp => N p (by
  simp only [List.mem_cons] at hp ⊢
  rcases hp with h | h | h | h | h | h <;> simp [h])
theorem put_end {h : Heap} {I D : Addr} {oI oD : Obj} {x y : Addr × Obj} {R : Led} (N : News h₀ L h ((I, oI) :: (D, oD) :: x :: y :: R)) : News h₀ L h ([(I, oI), (D, oD)] ++ (x :: y :: R)) := N
theorem off1_ne {D : Addr} : ∀ {nw : Led}, LCg.Off1 D nw → ∀ p ∈ nw, p.1 ≠ D
  | [], _, _, h => nomatch h
  | _ :: _, x, p, h => by
    rcases List.mem_cons.mp h with rfl | h
    · exact x.1
    · exact off1_ne x.2 p h
theorem put_off {af eq a b D : Addr} {o1 o2 o3 o4 : Obj} {nw : Led} (h1 : @LT.lt Nat _ D af) (h2 : @LT.lt Nat _ D eq) (h3 : @LT.lt Nat _ D a) (h4 : @LT.lt Nat _ D b) (o : LCg.Off1 D nw) : ∀ p ∈ (af, o1) :: (eq, o2) :: (a, o3) :: (b, o4) :: nw, p.1 ≠ D := by
  intro p hp
  simp only [List.mem_cons] at hp
  rcases hp with h | h | h | h | h
  · rw [h]; exact Nat.ne_of_gt h1
  · rw [h]; exact Nat.ne_of_gt h2
  · rw [h]; exact Nat.ne_of_gt h3
  · rw [h]; exact Nat.ne_of_gt h4
  · exact off1_ne o p h
/-- a comprehension whose values nobody looks at: what its turns make is dropped -/
theorem comp_drop {elt : Expr} {x : Str} {scope : Scope} {cl : List (Str × Addr)} {S : Led → Prop} {P : Nat → Value → Prop} {Fin : List Value → Led → Prop} {n : Nat} {news : Led}
    (turn : ∀ v I oI C oC D m₂ ys h tk (E' : Value → Shared → Prop), LCg.NsObj oC m₂ → m₂ x = some v → Fr h₀ L h m → News h₀ L h ((I, oI) :: (C, oC) :: (D, LCg.lst ys) :: news) → LCg.Off3 I C D news → ((@Ne Nat I C) ∧ (@Ne Nat I D) ∧ (@Ne Nat C D)) →
      wpAny (model prog w) A (eval elt (compEnvC scope cl C env)) (LCg.CompEnd h₀ L m { s with heap := h, toks := tk } I oI C oC D (LCg.lst ys) S (fun _ news' => news' = news)) E' { s with heap := h, toks := tk })
    (fin : ∀ ys, ys.length = n → Fin ys news) : LCg.CompRest prog w A h₀ L m env elt x scope cl s S P Fin n 0 [] news := by
  have all : ∀ j i ys, i + j = n → ys.length = i → LCg.CompRest prog w A h₀ L m env elt x scope cl s S P Fin j i ys news := by
    intro j
    induction j with
    | zero => exact fun i ys hi hl => LCg.CompRest.zero (fin ys (by omega))
    | succ j ih =>
      intro i ys hi hl
      refine LCg.CompRest.succ fun v I oI C oC D m₂ h tk E' _ hC hx F N off ne => ?_
      refine wpAny_mono (turn v I oI C oC D m₂ ys h tk E' hC hx F N off ne) (fun y s₂ hq => ?_) fun _ _ e => e
      obtain ⟨h', tk', nw', e, F', N', off', hS, hsub⟩ := hq
      rw [hsub] at N' off' hS
      exact ⟨h', tk', news, e, F', N', off', hS, ih (i + 1) (ys ++ [y]) (by omega) (by simp [hl])⟩
  exact all n 0 [] (by omega) rfl
theorem guess_start {h : Heap} {a b c : Addr × Obj} {nw : Led} (N : News h₀ L h (a :: b :: c :: nw)) : News h₀ L h (c :: a :: b :: nw) := fun p hp => N p (by
  simp only [List.mem_cons] at hp ⊢
  rcases hp with h | h | h | h <;> simp [h])
theorem guess_end {h : Heap} {a b c : Addr × Obj} {nw : Led} (N : News h₀ L h (c :: a :: b :: nw)) : News h₀ L h (a :: b :: c :: nw) := fun p hp => N p (by
  simp only [List.mem_cons] at hp ⊢
  rcases hp with h | h | h | h <;> simp [h])
theorem pair_end {h : Heap} {a b : Addr × Obj} {R : Led} (N : News h₀ L h (a :: b :: R)) : News h₀ L h ([a, b] ++ R) := N
end
end PartLRules
end Mine

/-! LRng -/
namespace Mine
section PartLRng
open PySem.Spec PySem.Calls
local macro_rules | `(tactic| walk_at "no key 0") => `(tactic| skip)
local macro_rules | `(tactic| walk_at "no key 1") => `(tactic| skip)
section
variable {prog : Program} {w : World} {A : Around} {E : Value → Shared → Prop} {s : Shared} {h₀ : Heap} {L : Addr} {env : Env}
/-- a loop over a range of any length, whose body stores no name but the loop's own; what is known of the ledger is J -/
theorem iter_rng {x : Str} {body : List Stmt} {Q : Flow → Shared → Prop} {r : Addr} {a₀ b₀ : Int} {t₀ u₀ v₀ : Tok} {n : Nat} {m₀ : Str → Option Value} {news : Led} (J : Led → Prop)
    (hh : A.handled = none) (hr : IsRange s.heap r a₀ b₀ 1 t₀ u₀ v₀) (hsmall : Builtin.Range.small a₀ b₀ 1 = true) (hsz : Builtin.Range.rangeSize a₀ b₀ 1 = (n : Int)) (F : Fr h₀ env.locals s.heap m₀) (N : News h₀ env.locals s.heap news) (hj : J news)
    (turn : ∀ (i : Nat) t nx h tk own, i < n → OwnOff own (nx.map (·.1)) → J nx → Fr h₀ env.locals h (fun y => if y = x then some (.int (a₀ + (i : Int)) t) else m₀ y) → News h₀ env.locals h (nx ++ own) →
      wpAny (model prog w) A (execs body env) (InvPostG h₀ env.locals (fun m nx => (∀ z, z ≠ x → m z = m₀ z) ∧ J nx) own { s with heap := h, toks := tk } Q) E { s with heap := h, toks := tk })
    (done : ∀ (u : Str → Option Value) nx h tk, J nx → Fr h₀ env.locals h (fun y => if y = x then u y else m₀ y) → News h₀ env.locals h nx → Q .next { s with heap := h, toks := tk }) :
    wpAny (model prog w) A (pyIter (.ref r)) (fun it s₂ => LoopAtV prog w A h₀ env x body Q E it s₂) E s := by
  refine wpAny_pyIter_range hr hsmall ?_
  refine kdr_loop (P := fun i v => i < n ∧ ∃ t, v = .int (a₀ + i * 1) t) (fun _ m nx => (∀ z, z ≠ x → m z = m₀ z) ∧ J nx) (Walks.range hh s.heap.objs.size a₀ 1 n).bound (fun _ h => h) (fun _ h => h) (fun i h hi b hb => ?_) (fun hm => ?_) (fun b hb => ?_) (fun p hp hI => ?_)
    (by show IsRangeIter _ _ _ _ _; rw [hsz]; simpa using Heap.get?_push_size _ rfl) (F.push _) (fun p hp => ⟨Heap.get?_push_of_some _ (N p hp).1, (N p hp).2⟩) ⟨fun _ _ => rfl, hj⟩ ?_ ?_
  · rw [List.mem_singleton.mp hb]; exact ⟨_, hi⟩
  · exact absurd F.ns.lt ((List.mem_singleton.mp hm) ▸ Nat.lt_irrefl _)
  · rw [List.mem_singleton.mp hb]; exact next_is_new F
  · exact absurd (Heap.lt_size (N p hp).1) ((List.mem_singleton.mp hI) ▸ Nat.lt_irrefl _)
  · rintro i v m₁ nx h tk own _ ⟨hi, t, rfl⟩ hoff ⟨hm, hJ⟩ F₁ N₁
    have e : (fun y => if y = x then some (Value.int (a₀ + (i : Int) * 1) t) else m₁ y) = fun y => if y = x then some (Value.int (a₀ + (i : Int)) t) else m₀ y := by
      funext y
      by_cases h1 : y = x
      · simp [h1]
      · simp only [if_neg h1]; exact hm y h1
    rw [e] at F₁
    exact turn i t nx h tk own hi hoff hJ F₁ N₁
  · rintro m₁ nx h tk ⟨hm, hJ⟩ F₁ N₁
    have e : (fun y => if y = x then m₁ y else m₀ y) = m₁ := by
      funext y
      by_cases h1 : y = x
      · simp [h1]
      · simp only [if_neg h1]; exact (hm y h1).symm
    exact done m₁ nx h tk hJ (e.symm ▸ F₁) N₁

/-- the ledger holds the one cell and nothing else that matters -/
def CellJ (c : Addr) (nx : Led) : Prop := ∃ o v, nx = [(c, o)] ∧ o.data = .cell v

def TestEnd (X : Prop) (ok : Bool) : Prop := ok = false ∧ X
/-- a comprehension whose test is never true, by what holds of the ledger between its turns -/
theorem comp_none {m : Str → Option Value} {ct elt : Expr} {x : Str} {scope : Scope} {cl : List (Str × Addr)} {S : Led → Prop} {P : Nat → Value → Prop} {Fin : List Value → Led → Prop} {n : Nat} {news : Led} (J : Led → Prop) (hj : J news)
    (turn : ∀ v I oI C oC D m₂ nw h tk (E' : Value → Shared → Prop), LCg.NsObj oC m₂ → m₂ x = some v → Fr h₀ L h m → News h₀ L h ((I, oI) :: (C, oC) :: (D, LCg.lst []) :: nw) → LCg.Off3 I C D nw → ((@Ne Nat I C) ∧ (@Ne Nat I D) ∧ (@Ne Nat C D)) → J nw →
      wpAny (model prog w) A (isTrue ct (compEnvC scope cl C env) (eval ct (compEnvC scope cl C env))) (fun ok s' => TestEnd (LCg.CompEnd h₀ L m { s with heap := h, toks := tk } I oI C oC D (LCg.lst []) S (fun _ nw' => J nw') Value.none s') ok) E' { s with heap := h, toks := tk })
    (fin : ∀ nw, J nw → Fin [] nw) : LCt.CompRestT prog w A h₀ L m env ct elt x scope cl s S P Fin n 0 [] news := by
  have all : ∀ j i nw, J nw → LCt.CompRestT prog w A h₀ L m env ct elt x scope cl s S P Fin j i [] nw := by
    intro j
    induction j with
    | zero => exact fun i nw h => LCt.CompRestT.zero (fin nw h)
    | succ j ih =>
      intro i nw hJ
      refine LCt.CompRestT.succ fun v I oI C oC D m₂ h tk E' _ hC hx F N off ne => ?_
      refine wpAny_mono (turn v I oI C oC D m₂ nw h tk E' hC hx F N off ne hJ) (fun ok s₂ hq => ?_) fun _ _ e => e
      obtain ⟨rfl, h', tk', nw', e, F', N', off', hS, hJ'⟩ := hq
      rw [if_neg Bool.false_ne_true]
      exact ⟨h', tk', nw', e, F', N', off', hS, ih (i + 1) nw' hJ'⟩
  exact all n 0 news hj
end
end PartLRng
end Mine

/-! LTake -/
namespace Mine
section PartLTake
open PySem.Spec PySem.Calls
local macro_rules | `(tactic| walk_at "no key 0") => `(tactic| skip)
local macro_rules | `(tactic| walk_at "no key 1") => `(tactic| skip)
local macro_rules | `(tactic| walk_at "no key 2") => `(tactic| skip)
abbrev Big (b : Int) (tb : Tok) (m : Int) (tm : Tok) (n : Nat) : Obj := listOf #[Value.int b tb, Value.int m tm] n

def TakeC (w : World) (mean : ExcName → Option Value) (mg mb : Str → Option Value) (f : Addr) : Prop :=
  ∀ (dp un : Nat) (gd : Option (List Code)) (cn : Str) (cs : Scope) (a : Addr) (ccd : Value) (cl : List (Str × Addr)) (outer : List Env) (A₀ : Around) (base h₀ : Heap) (L : Addr) (m : Str → Option Value) (s : Shared) (Q E : Value → Shared → Prop)
    (news : Led) (src : Addr) (b : Int) (tb : Tok) (mi : Int) (tm : Tok) (n : Nat) (top : Int) (tt : Tok),
    Below A₀ base outer h₀ → Fr h₀ L s.heap m → (hd.heap_39 w.params).In h₀ → News h₀ L s.heap ((src, Big b tb mi tm n) :: news) → (∀ p ∈ news, p.1 ≠ src) → TopOf mean mg mb h₀ → cs.kind = .function →
    0 ≤ b → 0 ≤ mi → mi < 2147483648 → 1 ≤ top → top ≤ 16 → dp + 1 < recursionLimit → un + 8 < cLine →
    (∀ (d : Int) (t : Tok) (b' : Int) (tb' : Tok) (m' : Int) (tm' : Tok) (h' : Heap) (tk' : Nat), 0 ≤ d → d < top → 0 ≤ b' → 0 ≤ m' → m' < 2147483648 → Fr h₀ L h' m → News h₀ L h' ((src, Big b' tb' m' tm' n) :: news) → Q (.int d t) { s with heap := h', toks := tk' }) →
    wpAny (model PySem.Challenge.rw_xm0754_01.row.prog w) (ktrTop dp un gd cn cs L a ccd cl outer) (call (.ref f) [.ref src, .int top tt]) Q E s
local macro_rules | `(tactic| k_all) => `(tactic| assumption)
theorem mul_ok_fm (a x : Int) : IntMulOk ([a, x.fmod 2147483647].getD (Int.toNat 1) 0) ([a, x.fmod 2147483647].getD (Int.toNat 1) 0) := by
  have h : [a, x.fmod 2147483647].getD (Int.toNat 1) 0 = x.fmod 2147483647 := rfl
  have h1 := Int.fmod_nonneg_of_pos x (b := 2147483647) (by omega)
  have h2 := Int.fmod_lt_of_pos x (b := 2147483647) (by omega)
  rw [h]
  exact IntMulOk.of_left (intBits_le_64 (by omega) (by omega))
local macro_rules | `(tactic| mul_fits) => `(tactic| exact mul_ok_fm _ _)
set_option maxHeartbeats 8000000 in
theorem take_c (w : World) (mean : ExcName → Option Value) (mg mb : Str → Option Value) : TakeC w mean mg mb 235 := by
  unfold TakeC
  k_fill
  w_top off
  intro dp un gd cn cs a ccd cl outer A₀ base h₀ L m s Q E news src b tb mi tm n top tt B F X N hne T hk hb hm hm2 h1 ht hd hu hret
  refine wpAny_call ?_
  k_dflt cell_enter
  k_steps
  all_goals (refine hret _ _ _ _ _ _ _ _ ?_ ?_ ?_ ?_ ?_ (by k_asm) (by k_asm))
  all_goals first
    | assumption
    | exact Int.fmod_nonneg_of_pos _ (by omega)
    | exact Int.fmod_lt_of_pos _ (by omega)
    | exact Int.fdiv_nonneg hb (by omega)
    | exact Int.lt_trans (Int.fmod_lt_of_pos _ (by omega)) (by omega : (2147483647:Int) < 2147483648)
end PartLTake
end Mine

/-! LCls -/
namespace Mine
section PartLCls
open PySem.Spec PySem.Calls
local macro_rules | `(tactic| walk_at "no key 0") => `(tactic| skip)
local macro_rules | `(tactic| walk_at "no key 1") => `(tactic| skip)
local macro_rules | `(tactic| walk_at "no key 2") => `(tactic| skip)
local macro_rules | `(tactic| walk_at "no key 3") => `(tactic| skip)
abbrev key (w : World) (x : String) (t : Tok) (v : Value) : DictEntry := ⟨PyData.keyHash w.params (Str.ofString x), Value.str (Str.ofString x) t, v⟩
/-- a call of a class whose object nobody looks at again -/
def DropC (w : World) (mean : ExcName → Option Value) (mg mb : Str → Option Value) (f : Addr) (ok : List Value → Prop) : Prop :=
  ∀ (dp un : Nat) (gd : Option (List Code)) (cn : Str) (cs : Scope) (a : Addr) (ccd : Value) (cl : List (Str × Addr)) (outer : List Env) (A₀ : Around) (base h₀ : Heap) (L : Addr) (m : Str → Option Value) (s : Shared) (Q E : Value → Shared → Prop)
    (news : Led) (vs : List Value),
    Below A₀ base outer h₀ → Fr h₀ L s.heap m → (hd.heap_39 w.params).In h₀ → News h₀ L s.heap news → TopOf mean mg mb h₀ → cs.kind = .function → dp + 2 < recursionLimit → un + 16 < cLine → ok vs →
    (∀ (x : Addr) (h' : Heap) (tk' : Nat), Fr h₀ L h' m → News h₀ L h' news → Q (.ref x) { s with heap := h', toks := tk' }) →
    wpAny (model PySem.Challenge.rw_xm0754_01.row.prog w) (ktrTop dp un gd cn cs L a ccd cl outer) (call (.ref f) vs) Q E s
local macro_rules | `(tactic| k_room) => `(tactic| ktr_room)
set_option maxHeartbeats 8000000 in
theorem lit_c (w : World) (mean : ExcName → Option Value) (mg mb : Str → Option Value) : DropC w mean mg mb 156 (fun vs => ∃ v, vs = [v]) := by
  unfold DropC
  k_fill
  w_top off
  rintro dp un gd cn cs a ccd cl outer A₀ base h₀ L m s Q E news vs B F X N T hk hd hu ⟨v, rfl⟩ hret
  obtain ⟨ck, cnm, cg, cc, cm⟩ := cs
  obtain rfl : ck = .function := hk
  k_steps
  exact hret _ _ _ (by k_asm) (News.perm (by k_asm) fun q hq => by simp only [List.mem_cons, hq, or_true])
set_option maxHeartbeats 8000000 in
theorem index_c (w : World) (mean : ExcName → Option Value) (mg mb : Str → Option Value) : DropC w mean mg mb 196 (fun vs => ∃ a b c d e f g, vs = [a, b, c, d, e, f, g]) := by
  unfold DropC
  k_fill
  w_top off
  rintro dp un gd cn cs a ccd cl outer A₀ base h₀ L m s Q E news vs B F X N T hk hd hu ⟨v1, v2, v3, v4, v5, v6, v7, rfl⟩ hret
  obtain ⟨ck, cnm, cg, cc, cm⟩ := cs
  obtain rfl : ck = .function := hk
  k_steps
  exact hret _ _ _ (by k_asm) (News.perm (by k_asm) fun q hq => by simp only [List.mem_cons, hq, or_true])
/-- a call of Bound -/
def BoundC (w : World) (mean : ExcName → Option Value) (mg mb : Str → Option Value) (f : Addr) : Prop :=
  ∀ (dp un : Nat) (gd : Option (List Code)) (cn : Str) (cs : Scope) (a : Addr) (ccd : Value) (cl : List (Str × Addr)) (outer : List Env) (A₀ : Around) (base h₀ : Heap) (L : Addr) (m : Str → Option Value) (s : Shared) (Q E : Value → Shared → Prop)
    (news : Led) (v1 v2 v3 v4 v5 : Value),
    Below A₀ base outer h₀ → Fr h₀ L s.heap m → (hd.heap_39 w.params).In h₀ → News h₀ L s.heap news → TopOf mean mg mb h₀ → cs.kind = .function → dp + 2 < recursionLimit → un + 16 < cLine →
    (∀ (x d : Addr) (t1 t2 t3 t4 t5 : Tok) (h' : Heap) (tk' : Nat), Fr h₀ L h' m → News h₀ L h' ((x, instObj 217 d) :: (d, dictOf [key w "place" t1 v1, key w "op" t2 v2, key w "value" t3 v3, key w "affinity" t4 v4, key w "collation" t5 v5] 5) :: news) → (∀ p ∈ news, p.1 < d) → d < x → Q (.ref x) { s with heap := h', toks := tk' }) →
    wpAny (model PySem.Challenge.rw_xm0754_01.row.prog w) (ktrTop dp un gd cn cs L a ccd cl outer) (call (.ref f) [v1, v2, v3, v4, v5]) Q E s
set_option maxHeartbeats 8000000 in
theorem bound_c (w : World) (mean : ExcName → Option Value) (mg mb : Str → Option Value) : BoundC w mean mg mb 217 := by
  unfold BoundC
  k_fill
  w_top off
  intro dp un gd cn cs a ccd cl outer A₀ base h₀ L m s Q E news v1 v2 v3 v4 v5 B F X N T hk hd hu hret
  obtain ⟨ck, cnm, cg, cc, cm⟩ := cs
  obtain rfl : ck = .function := hk
  k_steps
  exact hret _ _ _ _ _ _ _ _ _ (by k_asm) (by k_asm) (by assumption) (by assumption)
section
variable {w : World} {mean : ExcName → Option Value} {mg mb : Str → Option Value} {dp un : Nat} {gd : Option (List Code)} {cn : Str} {cs : Scope} {a : Addr} {ccd : Value} {cl : List (Str × Addr)} {outer : List Env} {A₀ : Around} {base h₀ : Heap} {L : Addr} {m : Str → Option Value} {s : Shared} {Q E : Value → Shared → Prop} {news : Led}
theorem lit_use {v : Value} (B : Below A₀ base outer h₀) (F : Fr h₀ L s.heap m) (X : (hd.heap_39 w.params).In h₀) (N : News h₀ L s.heap news) (T : TopOf mean mg mb h₀) (hk : cs.kind = .function) (hd : dp + 2 < recursionLimit) (hu : un + 16 < cLine)
    (h : ∀ (x : Addr) (h' : Heap) (tk' : Nat), Fr h₀ L h' m → News h₀ L h' news → Q (.ref x) { s with heap := h', toks := tk' }) :
    wpAny (model PySem.Challenge.rw_xm0754_01.row.prog w) (ktrTop dp un gd cn cs L a ccd cl outer) (call (.ref 156) [v]) Q E s :=
  lit_c w mean mg mb _ _ _ _ _ _ _ _ _ _ _ _ _ _ _ _ _ _ _ B F X N T hk hd hu ⟨_, rfl⟩ h
theorem index_use {v1 v2 v3 v4 v5 v6 v7 : Value} (B : Below A₀ base outer h₀) (F : Fr h₀ L s.heap m) (X : (hd.heap_39 w.params).In h₀) (N : News h₀ L s.heap news) (T : TopOf mean mg mb h₀) (hk : cs.kind = .function) (hd : dp + 2 < recursionLimit) (hu : un + 16 < cLine)
    (h : ∀ (x : Addr) (h' : Heap) (tk' : Nat), Fr h₀ L h' m → News h₀ L h' news → Q (.ref x) { s with heap := h', toks := tk' }) :
    wpAny (model PySem.Challenge.rw_xm0754_01.row.prog w) (ktrTop dp un gd cn cs L a ccd cl outer) (call (.ref 196) [v1, v2, v3, v4, v5, v6, v7]) Q E s :=
  index_c w mean mg mb _ _ _ _ _ _ _ _ _ _ _ _ _ _ _ _ _ _ _ B F X N T hk hd hu ⟨_, _, _, _, _, _, _, rfl⟩ h
theorem bound_use {v1 v2 v3 v4 v5 : Value} (B : Below A₀ base outer h₀) (F : Fr h₀ L s.heap m) (X : (hd.heap_39 w.params).In h₀) (N : News h₀ L s.heap news) (T : TopOf mean mg mb h₀) (hk : cs.kind = .function) (hd : dp + 2 < recursionLimit) (hu : un + 16 < cLine)
    (h : ∀ (x d : Addr) (t1 t2 t3 t4 t5 : Tok) (h' : Heap) (tk' : Nat), Fr h₀ L h' m → News h₀ L h' ((x, instObj 217 d) :: (d, dictOf [key w "place" t1 v1, key w "op" t2 v2, key w "value" t3 v3, key w "affinity" t4 v4, key w "collation" t5 v5] 5) :: news) → (∀ p ∈ news, p.1 < d) → d < x → Q (.ref x) { s with heap := h', toks := tk' }) :
    wpAny (model PySem.Challenge.rw_xm0754_01.row.prog w) (ktrTop dp un gd cn cs L a ccd cl outer) (call (.ref 217) [v1, v2, v3, v4, v5]) Q E s :=
  bound_c w mean mg mb _ _ _ _ _ _ _ _ _ _ _ _ _ _ _ _ _ _ _ _ _ _ _ B F X N T hk hd hu h
end
end PartLCls
end Mine

/-! LPath -/
namespace Mine
section PartLPath
open PySem.Spec PySem.Calls
/-- the entries of a Path's dict -/
abbrev PathEs (w : World) (eq : Addr) (t0 t1 t2 t3 t4 t5 t6 t7 t8 t9 t10 t11 t12 t13 t14 : Tok) (vk vi va vlow vhigh vla vha vin vina vc vd vs vr vco : Value) : List DictEntry :=
  [key w "kind" t0 vk, key w "index" t1 vi, key w "equals" t2 (.ref eq), key w "equal_affinities" t3 va, key w "low" t4 vlow, key w "high" t5 vhigh, key w "low_affinity" t6 vla, key w "high_affinity" t7 vha,
   key w "in_list" t8 vin, key w "in_affinity" t9 vina, key w "covering" t10 vc, key w "descending" t11 vd, key w "is_single" t12 vs, key w "rows" t13 vr, key w "cost" t14 vco]
/-- what is known of a path's end or list -/
def OptRef (b : Bool) (v : Value) : Prop := (b = true → ∃ a, v = .ref a) ∧ (b = false → v = .none)
def OptList (many : Int) (nw : Led) (v : Value) : Prop := (0 < many → ∃ il ws k, v = .ref il ∧ (il, listOf (List.toArray ws) k) ∈ nw ∧ ws.length = many.toNat) ∧ (¬ 0 < many → v = .none)
theorem optRef_t {a : Addr} : OptRef true (.ref a) := ⟨fun _ => ⟨a, rfl⟩, fun h => nomatch h⟩
theorem optRef_f : OptRef false .none := ⟨fun h => (nomatch h), fun _ => rfl⟩
theorem optList_t {many : Int} {nw : Led} {il : Addr} {ws : List Value} {k : Nat} (h : 0 < many) (hm : (il, listOf (List.toArray ws) k) ∈ nw) (hl : ws.length = many.toNat) : OptList many nw (.ref il) := ⟨fun _ => ⟨il, ws, k, rfl, hm, hl⟩, fun h' => absurd h h'⟩
theorem optList_f {many : Int} {nw : Led} (h : ¬ 0 < many) : OptList many nw .none := ⟨fun h' => absurd h' h, fun _ => rfl⟩

/-- what a call of _law_path hands on -/
def PathOut (w : World) (h₀ : Heap) (L : Addr) (m : Str → Option Value) (news : Led) (e : Int) (lo hi : Bool) (many : Int) (s : Shared) (Q : Value → Shared → Prop) : Prop :=
  ∀ (p dx eq : Addr) (t0 t1 t2 t3 t4 t5 t6 t7 t8 t9 t10 t11 t12 t13 t14 : Tok) (vk vi va vlow vhigh vla vha vin vina vc vd vs vr vco : Value) (vals : List Value) (k : Nat) (nw : Led) (h' : Heap) (tk' : Nat), Fr h₀ L h' m →
    News h₀ L h' ((p, instObj 60 dx) :: (dx, dictOf (PathEs w eq t0 t1 t2 t3 t4 t5 t6 t7 t8 t9 t10 t11 t12 t13 t14 vk vi va vlow vhigh vla vha vin vina vc vd vs vr vco) 15) :: (eq, listOf (List.toArray vals) k) :: nw) →
    ((@Ne Nat p dx) ∧ (@Ne Nat eq dx) ∧ (@Ne Nat p eq)) → (∀ q ∈ nw, q.1 ≠ dx) → (∀ q ∈ nw, q.1 ≠ eq) → (∀ q ∈ news, q ∈ nw) → vals.length = e.toNat → OptRef lo vlow → OptRef hi vhigh → OptList many nw vin → Q (.ref p) { s with heap := h', toks := tk' }
theorem PathOut.use {w : World} {h₀ : Heap} {L : Addr} {m : Str → Option Value} {news : Led} {e : Int} {lo hi : Bool} {many : Int} {s : Shared} {Q : Value → Shared → Prop} (hret : PathOut w h₀ L m news e lo hi many s Q)
    {p dx eq : Addr} {t0 t1 t2 t3 t4 t5 t6 t7 t8 t9 t10 t11 t12 t13 t14 : Tok} {vk vi va vlow vhigh vla vha vin vina vc vd vs vr vco : Value} {vals : List Value} {k : Nat} {led : Led} {h' : Heap} {tk' : Nat} (F : Fr h₀ L h' m) (N : News h₀ L h' led) (h1 : (p, instObj 60 dx) ∈ led)
    (h2 : (dx, dictOf (PathEs w eq t0 t1 t2 t3 t4 t5 t6 t7 t8 t9 t10 t11 t12 t13 t14 vk vi va vlow vhigh vla vha vin vina vc vd vs vr vco) 15) ∈ led) (h3 : (eq, listOf (List.toArray vals) k) ∈ led) (nw : Led) (h4 : ∀ q ∈ nw, q ∈ led) (d1 : @Ne Nat p dx) (d2 : @Ne Nat eq dx) (d3 : @Ne Nat p eq) (o : ∀ q ∈ nw, q.1 ≠ dx) (o2 : ∀ q ∈ nw, q.1 ≠ eq) (hs : ∀ q ∈ news, q ∈ nw)
    (hl : vals.length = e.toNat) (hlo : OptRef lo vlow) (hhi : OptRef hi vhigh) (hin : OptList many nw vin) : Q (.ref p) { s with heap := h', toks := tk' } :=
  hret _ _ _ _ _ _ _ _ _ _ _ _ _ _ _ _ _ _ _ _ _ _ _ _ _ _ _ _ _ _ _ _ _ _ _ _ _ F (News.perm N (List.forall_mem_cons.mpr ⟨h1, List.forall_mem_cons.mpr ⟨h2, List.forall_mem_cons.mpr ⟨h3, h4⟩⟩⟩)) ⟨d1, d2, d3⟩ o o2 hs hl hlo hhi hin

def PathC (w : World) (mean : ExcName → Option Value) (mg mb : Str → Option Value) (f : Addr) : Prop :=
  ∀ (dp un : Nat) (gd : Option (List Code)) (cn : Str) (cs : Scope) (a : Addr) (ccd : Value) (cl : List (Str × Addr)) (outer : List Env) (A₀ : Around) (base h₀ : Heap) (L : Addr) (m : Str → Option Value) (s : Shared) (Q E : Value → Shared → Prop)
    (news : Led) (e : Int) (te : Tok) (lo hi : Bool) (many : Int) (tm : Tok),
    Below A₀ base outer h₀ → Fr h₀ L s.heap m → (hd.heap_39 w.params).In h₀ → News h₀ L s.heap news → TopOf mean mg mb h₀ → cs.kind = .function →
    0 ≤ e → e ≤ 4 → 0 ≤ many → many ≤ 11 → dp + 8 < recursionLimit → un + 64 < cLine →
    PathOut w h₀ L m news e lo hi many s Q →
    wpAny (model PySem.Challenge.rw_xm0754_01.row.prog w) (ktrTop dp un gd cn cs L a ccd cl outer) (call (.ref f) [.int e te, .bool lo, .bool hi, .int many tm]) Q E s
local macro_rules | `(tactic| k_all) => `(tactic| ((with_reducible rename MyMark => mk9); tbn_letter; first | with_reducible assumption | exact off1_ne (by with_reducible assumption)))
local macro_rules | `(tactic| k_mem) => `(tactic| ((with_reducible rename MyMark => mk9); (fail_if_success (refine List.Mem.tail _ ?_)); refine mem_of_mem ?_; with_reducible assumption))
local macro_rules | `(tactic| size_fits) => `(tactic| (rw [PySem.sizeLine_eq]; simp only [List.size_toArray]; omega))
local macro_rules | `(tactic| k_room) => `(tactic| ktr_room)
local macro_rules | `(tactic| walk_at "CompSrc") => `(tactic| (k_here; refine stop ?_))
def ElB (w : World) (nw : Led) (y : Value) : Prop :=
  ∃ (b d v : Addr) (t1 t2 t3 t4 t5 t6 t7 t8 : Tok), y = .ref b ∧ (b, instObj 217 d) ∈ nw ∧
    (d, dictOf [key w "place" t1 (.int 0 t2), key w "op" t3 (.str (Str.ofString "=") t4), key w "value" t5 (.ref v), key w "affinity" t6 .none, key w "collation" t7 (.str (Str.ofString "binary") t8)] 5) ∈ nw
theorem ElB.mono (w : World) (nw nw' : Led) (y : Value) (h : ∀ p ∈ nw, p ∈ nw') : ElB w nw y → ElB w nw' y :=
  fun ⟨b, d, v, t1, t2, t3, t4, t5, t6, t7, t8, e, h1, h2⟩ => ⟨b, d, v, t1, t2, t3, t4, t5, t6, t7, t8, e, h _ h1, h _ h2⟩
local macro_rules | `(tactic| walk_at "exec For Name Name cons nil") => `(tactic| (k_here; (rename Fr _ _ _ _ => lF'); (with_unfolding_all refine' For_invVF lF' ?k1 ?k2 ?_; (case k1 => exact rfl); (case k2 => exact rfl); k_whole)))
local macro_rules | `(tactic| walk_at "pyIter ref") => `(tactic| (k_here; refine stop ?_))
local macro_rules | `(tactic| walk_at "call ref") => `(tactic| (k_here; (with_reducible show wpAny _ _ (call (Value.ref 156) _) _ _ _); k_dflt (refine lit_use (by k_asm) (by k_asm) (by k_asm) (by k_asm) (by k_asm) (by first | exact rfl | assumption) (by ktr_room) (by ktr_units) ?_); intro x' h' tk' F' N'))
local macro_rules | `(tactic| walk_at "call ref") => `(tactic| (k_here; (with_reducible show wpAny _ _ (call (Value.ref 196) _) _ _ _); k_dflt (refine index_use (by k_asm) (by k_asm) (by k_asm) (by k_asm) (by k_asm) (by first | exact rfl | assumption) (by ktr_room) (by ktr_units) ?_); intro x' h' tk' F' N'))
local macro_rules | `(tactic| walk_at "call ref") => `(tactic| (k_here; (with_reducible show wpAny _ _ (call (Value.ref 217) _) _ _ _); k_dflt (refine bound_use (by k_asm) (by k_asm) (by k_asm) (by k_asm) (by k_asm) (by first | exact rfl | assumption) (by ktr_room) (by ktr_units) ?_); intro x' d' t1' t2' t3' t4' t5' h' tk' F' N' l1 l2; (try k_lt l1); (try k_lt2 l2)))
set_option maxHeartbeats 8000000 in
theorem path_c (w : World) (mean : ExcName → Option Value) (mg mb : Str → Option Value) : PathC w mean mg mb 247 := by
  unfold PathC
  k_fill
  w_top off
  intro dp un gd cn cs a ccd cl outer A₀ base h₀ L m s Q E news e te lo hi many tm B F X N T hk he0 he4 hm0 hm hd hu hret
  refine wpAny_call ?_
  k_dflt cell_enter
  k_steps
  unfold Stop
  k_dflt (refine LCg.CompSrc.range (n := e.toNat) (by rfl) (by k_asm) (by k_asm) (by assumption) (small_one (by decide) (by decide) (by omega) (by omega)) (by rw [rangeSize_nat]; congr 1; omega) (by rw [PySem.sizeLine_eq]; omega) ?_)
  intro g'
  refine comp_objs (ElB w) (ElB.mono w) ?cT ?cF
  case cT =>
    intro v' I' oI' C' oC' D' m' ys' nw' h' tk' E' hC' hx' F' N' hs' off' ne'
    k_steps
    refine comp_keep2 (by k_asm) (by k_asm) off' (by omega) (by omega) ⟨?_, ?_⟩
    · intro p hp
      simp only [List.mem_cons, hp, or_true]
    · exact ⟨_, _, _, _, _, _, _, _, _, _, _, rfl, by k_mem, by k_mem⟩
  case cF =>
    intro ys nw hs hl he
    k_steps
    unfold Stop
    refine iter_vals0 (PutJ _ _ _) (by rfl) (by k_asm) (put_start (by k_asm)) ?off ⟨[], [], 0, 0, rfl, rfl, rfl⟩ ?turn ?done
    case off => exact put_off (by omega) (by omega) (by omega) (by omega) (by with_reducible assumption)
    case turn =>
      have mk0 : MyMark := MyMark.mk
      intro i v nx h' tk' I' oI' hv hJ hoffI hIl F' N'
      obtain ⟨us, vs, k, k', hul, hvl, rfl⟩ := hJ
      obtain ⟨b, d, v, t1, t2, t3, t4, t5, t6, t7, t8, rfl, hb, hd'⟩ := he v (List.mem_of_getElem? hv)
      have hi : i < ys.length := (List.getElem?_eq_some_iff.mp hv).1
      simp only [List.forall_mem_cons] at hoffI
      simp only [List.mem_cons, List.not_mem_nil, or_false, not_or] at hoffI
      obtain ⟨hI1, hI2, hI3, hI4, hI5⟩ := hoffI
      replace hI1 := ne2 hI1
      replace hI2 := ne2 hI2
      replace hI3 := ne2 hI3
      replace hI4 := ne2 hI4
      replace hIl := ne1 hIl
      k_steps
      all_goals refine ⟨_, _, _, _, rfl, by k_asm, put_end (by k_asm), ?_, ?_, _, _, _, _, ?_, ?_, rfl⟩
      · simp only [List.forall_mem_cons]
        simp only [List.mem_cons, List.not_mem_nil, or_false, not_or]
        exact ⟨hI1, hI2, hI3, hI4, hI5⟩
      · intro z hz
        exact if_neg hz
      · simp [hul]
      · simp [hvl]
    case done =>
      intro u nx h' tk' hJ hoff F' N'
      obtain ⟨us, vs, k, k', hul, hvl, rfl⟩ := hJ
      dsimp only
      cases lo <;> cases hi
      all_goals k_steps
      all_goals first
        | exact PathOut.use hret (by k_asm) (by k_asm) (by k_mem) (by k_mem) (by k_mem) nw (fun q hq => by simp only [List.mem_cons, hq, or_true]) (by omega) (by omega) (by omega) (all_ne (by tbn_find)) (all_ne (by tbn_find)) (fun q hq => hs q (by simp only [List.mem_cons, hq, or_true])) (hvl.trans hl) (by first | exact optRef_t | exact optRef_f) (by first | exact optRef_t | exact optRef_f) (optList_f (by omega))
        | unfold Stop
      all_goals (
        k_dflt (refine LCg.CompSrc.range (n := many.toNat) (by rfl) (by k_asm) (by k_asm) (by assumption) (small_one (by decide) (by decide) (by omega) (by omega)) (by rw [rangeSize_nat]; congr 1; omega) (by rw [PySem.sizeLine_eq]; omega) ?_)
        intro g'
        refine comp_drop ?_ ?_
        · intro v' I' oI' C' oC' D' m' ys' h' tk' E' hC' hx' F' N' off' ne'
          have off2 := off'
          simp only [LCg.Off3] at off2
          k_steps
          exact comp_end0 (by k_asm) (by k_asm) off' rfl
        · intro ws hws
          k_steps
          exact PathOut.use hret (by k_asm) (by k_asm) (by k_mem) (by k_mem) (by k_mem) ((_, listOf ws.toArray ws.length) :: nw) (List.forall_mem_cons.mpr ⟨by k_mem, fun q hq => by simp only [List.mem_cons, hq, or_true]⟩) (by omega) (by omega) (by omega) (List.forall_mem_cons.mpr ⟨by k_ne, all_ne (by tbn_find)⟩) (List.forall_mem_cons.mpr ⟨by k_ne, all_ne (by tbn_find)⟩) (fun q hq => List.mem_cons_of_mem _ (hs q (by simp only [List.mem_cons, hq, or_true]))) (hvl.trans hl) (by first | exact optRef_t | exact optRef_f) (by first | exact optRef_t | exact optRef_f) (optList_t (by omega) List.mem_cons_self hws))
end PartLPath
end Mine

/-! LGuess -/
namespace Mine
section PartLGuess
open PySem.Spec PySem.Calls
local macro_rules | `(tactic| walk_at "no key 0") => `(tactic| skip)
/-- a thousand rows, a tenth for each equal column -/
def cut : Nat → Int
  | 0 => 1000
  | n + 1 => (cut n).fdiv 10
def manyOf (many : Int) : Int := if 0 < many then many else 1
def partsOf (n : Nat) (lo hi : Bool) (many : Int) : Int := 10 ^ (n + (if 0 < many then 1 else 0)) * 4 ^ ((if lo then 1 else 0) + (if hi then 1 else 0) : Nat)
def rowsOf (n : Nat) (lo hi : Bool) (many : Int) (sg : Bool) : Int := min 1000 ((if sg = true ∨ 1000 < partsOf n lo hi many then 1 else Int.fdiv 1000 (partsOf n lo hi many)) * manyOf many)
def ledOf (n : Nat) (lo hi : Bool) (many : Int) : Bool := decide (0 < n) || decide (0 < many) || lo || hi
def costOf (n : Nat) (lo hi : Bool) (many : Int) (sg : Bool) (per : Int) : Int := rowsOf n lo hi many sg * per + (if ledOf n lo hi many = true then 4 * manyOf many else 0)
def singleOf (many : Int) (sg : Bool) : Bool := sg && !decide (0 < many)

def GuessOut (w : World) (h₀ : Heap) (L : Addr) (m : Str → Option Value) (news : Led) (p dx eq : Addr) (t0 t1 t2 t3 t4 t5 t6 t7 t8 t9 t10 t11 t12 t13 t14 : Tok) (vk vi va vlow vhigh vla vha vin vina vc vd : Value) (vals : List Value) (k : Nat)
    (n : Nat) (lo hi : Bool) (many per : Int) (sg : Bool) (s : Shared) (Q : Value → Shared → Prop) : Prop :=
  ∀ (tr tc : Tok) (h' : Heap) (tk' : Nat), Fr h₀ L h' m →
    News h₀ L h' ((p, instObj 60 dx) :: (dx, dictOf (PathEs w eq t0 t1 t2 t3 t4 t5 t6 t7 t8 t9 t10 t11 t12 t13 t14 vk vi va vlow vhigh vla vha vin vina vc vd (.bool (singleOf many sg)) (.int (rowsOf n lo hi many sg) tr) (.int (costOf n lo hi many sg per) tc)) 15) :: (eq, listOf (List.toArray vals) k) :: news) →
    Q .none { s with heap := h', toks := tk' }
theorem GuessOut.use {w : World} {h₀ : Heap} {L : Addr} {m : Str → Option Value} {news : Led} {p dx eq : Addr} {t0 t1 t2 t3 t4 t5 t6 t7 t8 t9 t10 t11 t12 t13 t14 : Tok} {vk vi va vlow vhigh vla vha vin vina vc vd : Value} {vals : List Value} {k n : Nat} {lo hi : Bool} {many per : Int} {sg : Bool} {s : Shared} {Q : Value → Shared → Prop}
    (hret : GuessOut w h₀ L m news p dx eq t0 t1 t2 t3 t4 t5 t6 t7 t8 t9 t10 t11 t12 t13 t14 vk vi va vlow vhigh vla vha vin vina vc vd vals k n lo hi many per sg s Q) {R X : Int} {S : Bool} {tr tc : Tok} {led : Led} {h' : Heap} {tk' : Nat} (F : Fr h₀ L h' m) (N : News h₀ L h' led) (h1 : (p, instObj 60 dx) ∈ led)
    (h2 : (dx, dictOf (PathEs w eq t0 t1 t2 t3 t4 t5 t6 t7 t8 t9 t10 t11 t12 t13 t14 vk vi va vlow vhigh vla vha vin vina vc vd (.bool S) (.int R tr) (.int (R * per + X) tc)) 15) ∈ led) (h3 : (eq, listOf (List.toArray vals) k) ∈ led) (h4 : ∀ q ∈ news, q ∈ led)
    (eS : S = singleOf many sg) (eR : R = rowsOf n lo hi many sg) (eX : X = if ledOf n lo hi many = true then 4 * manyOf many else 0) : Q .none { s with heap := h', toks := tk' } := by
  subst eS eX eR
  exact hret tr tc h' tk' F (News.perm N (List.forall_mem_cons.mpr ⟨h1, List.forall_mem_cons.mpr ⟨h2, List.forall_mem_cons.mpr ⟨h3, h4⟩⟩⟩))

/-- the rows as guess reckons them -/
def walkRows (n : Nat) (lo hi pos : Bool) (mv : Int) (sg : Bool) : Int :=
  let r1 := if lo = true then (cut n).fdiv 4 else cut n
  let r2 := if hi = true then r1.fdiv 4 else r1
  let r3 := if pos = true then r2.fdiv 10 else r2
  let r4 := if sg = true then 1 else if 1 > r3 then 1 else r3
  if 1000 < r4 * mv then 1000 else r4 * mv
theorem rows_leaf {n : Nat} (hn : n ≤ 4) (lo hi pos : Bool) {many mv : Int} (sg : Bool) (hpos : pos = decide (0 < many)) (hmv : mv = manyOf many) : walkRows n lo hi pos mv sg = rowsOf n lo hi many sg := by
  subst hpos hmv
  have h5 : n = 0 ∨ n = 1 ∨ n = 2 ∨ n = 3 ∨ n = 4 := by omega
  by_cases hm : 0 < many
  · rcases h5 with rfl | rfl | rfl | rfl | rfl <;> cases lo <;> cases hi <;> cases sg <;> simp [walkRows, rowsOf, cut, partsOf, manyOf, hm] <;> omega
  · rcases h5 with rfl | rfl | rfl | rfl | rfl <;> cases lo <;> cases hi <;> cases sg <;> simp [walkRows, rowsOf, cut, partsOf, manyOf, hm] <;> omega
theorem led_t {n : Nat} {lo hi : Bool} {many mv : Int} (h : ledOf n lo hi many = true) (hmv : mv = manyOf many) : 4 * mv = if ledOf n lo hi many = true then 4 * manyOf many else 0 := by rw [if_pos h, hmv]
theorem led_f {n : Nat} {lo hi : Bool} {many : Int} (h : ¬ ledOf n lo hi many = true) : 0 = if ledOf n lo hi many = true then 4 * manyOf many else 0 := by rw [if_neg h]
theorem many_1 {many : Int} (h : ¬ 0 < many) : (1 : Int) = manyOf many := by rw [manyOf, if_neg h]
theorem many_n {many : Int} {ws : List Value} (h : 0 < many) (hl : ws.length = many.toNat) : ((List.toArray ws).size : Int) = manyOf many := by rw [manyOf, if_pos h, List.size_toArray]; omega
theorem led_low {n : Nat} {hi : Bool} {many : Int} : ledOf n true hi many = true := by simp [ledOf]
theorem led_high {n : Nat} {lo : Bool} {many : Int} : ledOf n lo true many = true := by simp [ledOf]
theorem led_many {n : Nat} {lo hi : Bool} {many : Int} (h : 0 < many) : ledOf n lo hi many = true := by simp [ledOf, h]
theorem led_eq {vals : List Value} {lo hi : Bool} {many : Int} (h : (List.toArray vals).size ≠ 0) : ledOf vals.length lo hi many = true := by
  have h : 0 < vals.length := by rw [List.size_toArray] at h; omega
  simp [ledOf, h]
theorem led_none {vals : List Value} {many : Int} (h : ¬ (List.toArray vals).size ≠ 0) (hm : ¬ 0 < many) : ¬ ledOf vals.length false false many = true := by
  have h : ¬ 0 < vals.length := by rw [List.size_toArray] at h; omega
  simp only [ledOf, h, hm]; decide
theorem single_f {many : Int} : false = singleOf many false := rfl
theorem single_t {many : Int} (h : ¬ 0 < many) : true = singleOf many true := by simp [singleOf, h]
theorem single_n {many : Int} {sg : Bool} (h : 0 < many) : false = singleOf many sg := by simp [singleOf, h]
def GuessC (w : World) (mean : ExcName → Option Value) (mg mb : Str → Option Value) (f : Addr) : Prop :=
  ∀ (dp un : Nat) (gd : Option (List Code)) (cn : Str) (cs : Scope) (a : Addr) (ccd : Value) (cl : List (Str × Addr)) (outer : List Env) (A₀ : Around) (base h₀ : Heap) (L : Addr) (m : Str → Option Value) (s : Shared) (Q E : Value → Shared → Prop)
    (nw : Led) (p dx eq : Addr) (t0 t1 t2 t3 t4 t5 t6 t7 t8 t9 t10 t11 t12 t13 t14 : Tok) (vk vi va vlow vhigh vla vha vin vina vc vd vs vr vco : Value) (vals : List Value) (k : Nat) (lo hi : Bool) (many per : Int) (tp : Tok) (sg : Bool),
    Below A₀ base outer h₀ → Fr h₀ L s.heap m → (hd.heap_39 w.params).In h₀ →
    News h₀ L s.heap ((p, instObj 60 dx) :: (dx, dictOf (PathEs w eq t0 t1 t2 t3 t4 t5 t6 t7 t8 t9 t10 t11 t12 t13 t14 vk vi va vlow vhigh vla vha vin vina vc vd vs vr vco) 15) :: (eq, listOf (List.toArray vals) k) :: nw) →
    TopOf mean mg mb h₀ → cs.kind = .function → ((@Ne Nat p dx) ∧ (@Ne Nat eq dx) ∧ (@Ne Nat p eq)) → (∀ q ∈ nw, q.1 ≠ dx) → (∀ q ∈ nw, q.1 ≠ eq) → vals.length ≤ 4 → OptRef lo vlow → OptRef hi vhigh → OptList many nw vin → many ≤ 11 → 2 ≤ per → per ≤ 3 →
    dp + 8 < recursionLimit → un + 64 < cLine →
    GuessOut w h₀ L m nw p dx eq t0 t1 t2 t3 t4 t5 t6 t7 t8 t9 t10 t11 t12 t13 t14 vk vi va vlow vhigh vla vha vin vina vc vd vals k vals.length lo hi many per sg s Q →
    wpAny (model PySem.Challenge.rw_xm0754_01.row.prog w) (ktrTop dp un gd cn cs L a ccd cl outer) (call (.ref f) [.ref p, .int per tp, .bool sg]) Q E s
local macro_rules | `(tactic| k_room) => `(tactic| ktr_room)
local macro_rules | `(tactic| walk_at "exec For Name Attribute cons nil") => `(tactic| (k_here; (rename Fr _ _ _ _ => lF'); (with_unfolding_all refine' For_invVF lF' ?k1 ?k2 ?_; (case k1 => exact rfl); (case k2 => exact rfl); k_whole)))
local macro_rules | `(tactic| walk_at "pyIter ref") => `(tactic| (k_here; refine stop ?_))
local macro_rules | `(tactic| walk_at "call builtin:len") => `(tactic| (k_here; (with_reducible rename MyMark => mk9); k_dflt (refine call_len_list (News.isList (by k_asm) (by k_mem)) (by simp only [List.size_toArray]; omega) ?_)))
local macro_rules | `(tactic| walk_at "compareOp NotEq ref ref") => `(tactic| (k_here; (with_reducible show wpAny _ _ (compareOp CmpOp.NotEq (Value.ref _) (Value.ref _)) _ _ _); k_dflt (refine ne_nil (by is_list) (by is_list) (by rfl) (by ktr_units) ?_)))
local macro_rules | `(tactic| k_all) => `(tactic| ((with_reducible rename MyMark => mk9); tbn_letter; with_reducible assumption))
local macro_rules | `(tactic| k_mem) => `(tactic| ((with_reducible rename MyMark => mk9); (fail_if_success (refine List.Mem.tail _ ?_)); refine mem_of_mem ?_; with_reducible assumption))
set_option maxHeartbeats 8000000 in
theorem guess_c (w : World) (mean : ExcName → Option Value) (mg mb : Str → Option Value) : GuessC w mean mg mb 92 := by
  unfold GuessC
  k_fill
  w_top off
  intro dp un gd cn cs a ccd cl outer A₀ base h₀ L m s Q E nw p dx eq t0 t1 t2 t3 t4 t5 t6 t7 t8 t9 t10 t11 t12 t13 t14 vk vi va vlow vhigh vla vha vin vina vc vd vs vr vco vals k lo hi many per tp sg B F X N T hk hne ho1 ho2 hl hlo hhi hin hm hp2 hp3 hd hu hret
  have mk0 : MyMark := MyMark.mk
  refine wpAny_call ?_
  k_dflt cell_enter
  k_steps
  unfold Stop
  refine iter_valsI (x := Str.ofString "expr") (y := Str.ofString "rows") (vs := vals) (n := k) cut (by rfl) (by k_asm) (guess_start (by k_asm)) (List.forall_mem_cons.mpr ⟨hne.2.2, List.forall_mem_cons.mpr ⟨Ne.symm hne.2.1, ho2⟩⟩) ⟨_, rfl⟩ ?turn ?done (by decide)
  case turn =>
    intro i v t h' tk' I' oI' hi hoI hIl F' N'
    k_steps
    refine ⟨_, _, _, _, rfl, by k_asm, pair_end (by k_asm), ?_, ⟨?_, _, rfl⟩, rfl⟩
    · intro q hq h
      rcases List.mem_cons.mp h with h | h
      · exact hoI q hq h
      · exact (List.forall_mem_cons.mpr ⟨hne.2.2, List.forall_mem_cons.mpr ⟨Ne.symm hne.2.1, ho2⟩⟩ : ∀ q ∈ (p, instObj 60 dx) :: (dx, dictOf (PathEs w eq t0 t1 t2 t3 t4 t5 t6 t7 t8 t9 t10 t11 t12 t13 t14 vk vi va vlow vhigh vla vha vin vina vc vd vs vr vco) 15) :: nw, q.1 ≠ eq) q hq (List.mem_singleton.mp h)
    · intro z h1 h2
      simp [h1, h2]
  case done =>
    intro u t h' tk' F' N'
    replace N' := guess_end N'
    dsimp only
    by_cases hmany : 0 < many
    · obtain ⟨il, ws, kk, rfl, hmem, hws⟩ := hin.1 hmany
      cases lo <;> cases hi
      case false.false =>
        obtain rfl := hlo.2 rfl
        obtain rfl := hhi.2 rfl
        cases sg <;> k_steps
        all_goals (
          refine GuessOut.use hret (by k_asm) (by k_asm) (by k_mem) (by k_mem) (by k_mem) (fun q hq => by simp only [List.mem_cons, hq, or_true]) ?_ ?_ ?_
          · exact single_n hmany
          · refine Eq.trans ?_ (rows_leaf hl _ _ true _ (by simp [hmany]) (many_n hmany hws))
            rfl
          · exact led_t (led_many hmany) (many_n hmany hws))
      case false.true =>
        obtain rfl := hlo.2 rfl
        obtain ⟨ahi, rfl⟩ := hhi.1 rfl
        cases sg <;> k_steps
        all_goals (
          refine GuessOut.use hret (by k_asm) (by k_asm) (by k_mem) (by k_mem) (by k_mem) (fun q hq => by simp only [List.mem_cons, hq, or_true]) ?_ ?_ ?_
          · exact single_n hmany
          · refine Eq.trans ?_ (rows_leaf hl _ _ true _ (by simp [hmany]) (many_n hmany hws))
            rfl
          · exact led_t (led_many hmany) (many_n hmany hws))
      case true.false =>
        obtain ⟨alo, rfl⟩ := hlo.1 rfl
        obtain rfl := hhi.2 rfl
        cases sg <;> k_steps
        all_goals (
          refine GuessOut.use hret (by k_asm) (by k_asm) (by k_mem) (by k_mem) (by k_mem) (fun q hq => by simp only [List.mem_cons, hq, or_true]) ?_ ?_ ?_
          · exact single_n hmany
          · refine Eq.trans ?_ (rows_leaf hl _ _ true _ (by simp [hmany]) (many_n hmany hws))
            rfl
          · exact led_t (led_many hmany) (many_n hmany hws))
      case true.true =>
        obtain ⟨alo, rfl⟩ := hlo.1 rfl
        obtain ⟨ahi, rfl⟩ := hhi.1 rfl
        cases sg <;> k_steps
        all_goals (
          refine GuessOut.use hret (by k_asm) (by k_asm) (by k_mem) (by k_mem) (by k_mem) (fun q hq => by simp only [List.mem_cons, hq, or_true]) ?_ ?_ ?_
          · exact single_n hmany
          · refine Eq.trans ?_ (rows_leaf hl _ _ true _ (by simp [hmany]) (many_n hmany hws))
            rfl
          · exact led_t (led_many hmany) (many_n hmany hws))
    · obtain rfl := hin.2 hmany
      cases lo <;> cases hi
      case false.false =>
        obtain rfl := hlo.2 rfl
        obtain rfl := hhi.2 rfl
        cases sg <;> k_steps
        all_goals (
          refine GuessOut.use hret (by k_asm) (by k_asm) (by k_mem) (by k_mem) (by k_mem) (fun q hq => by simp only [List.mem_cons, hq, or_true]) ?_ ?_ ?_
          · first | exact single_f | exact single_t hmany
          · refine Eq.trans ?_ (rows_leaf hl _ _ false _ (by simp [hmany]) (many_1 hmany))
            rfl
          · first | exact led_t led_low (many_1 hmany) | exact led_t led_high (many_1 hmany) | exact led_t (led_eq (by assumption)) (many_1 hmany) | exact led_f (led_none (by assumption) hmany))
      case false.true =>
        obtain rfl := hlo.2 rfl
        obtain ⟨ahi, rfl⟩ := hhi.1 rfl
        cases sg <;> k_steps
        all_goals (
          refine GuessOut.use hret (by k_asm) (by k_asm) (by k_mem) (by k_mem) (by k_mem) (fun q hq => by simp only [List.mem_cons, hq, or_true]) ?_ ?_ ?_
          · first | exact single_f | exact single_t hmany
          · refine Eq.trans ?_ (rows_leaf hl _ _ false _ (by simp [hmany]) (many_1 hmany))
            rfl
          · first | exact led_t led_low (many_1 hmany) | exact led_t led_high (many_1 hmany) | exact led_t (led_eq (by assumption)) (many_1 hmany) | exact led_f (led_none (by assumption) hmany))
      case true.false =>
        obtain ⟨alo, rfl⟩ := hlo.1 rfl
        obtain rfl := hhi.2 rfl
        cases sg <;> k_steps
        all_goals (
          refine GuessOut.use hret (by k_asm) (by k_asm) (by k_mem) (by k_mem) (by k_mem) (fun q hq => by simp only [List.mem_cons, hq, or_true]) ?_ ?_ ?_
          · first | exact single_f | exact single_t hmany
          · refine Eq.trans ?_ (rows_leaf hl _ _ false _ (by simp [hmany]) (many_1 hmany))
            rfl
          · first | exact led_t led_low (many_1 hmany) | exact led_t led_high (many_1 hmany) | exact led_t (led_eq (by assumption)) (many_1 hmany) | exact led_f (led_none (by assumption) hmany))
      case true.true =>
        obtain ⟨alo, rfl⟩ := hlo.1 rfl
        obtain ⟨ahi, rfl⟩ := hhi.1 rfl
        cases sg <;> k_steps
        all_goals (
          refine GuessOut.use hret (by k_asm) (by k_asm) (by k_mem) (by k_mem) (by k_mem) (fun q hq => by simp only [List.mem_cons, hq, or_true]) ?_ ?_ ?_
          · first | exact single_f | exact single_t hmany
          · refine Eq.trans ?_ (rows_leaf hl _ _ false _ (by simp [hmany]) (many_1 hmany))
            rfl
          · first | exact led_t led_low (many_1 hmany) | exact led_t led_high (many_1 hmany) | exact led_t (led_eq (by assumption)) (many_1 hmany) | exact led_f (led_none (by assumption) hmany))
end PartLGuess
end Mine

/-! LDue -/
namespace Mine
section PartLDue
open PySem.Spec PySem.Calls
local macro_rules | `(tactic| walk_at "no key 0") => `(tactic| skip)
local macro_rules | `(tactic| walk_at "no key 1") => `(tactic| skip)
local macro_rules | `(tactic| walk_at "no key 2") => `(tactic| skip)
local macro_rules | `(tactic| walk_at "no key 3") => `(tactic| skip)
local macro_rules | `(tactic| walk_at "no key 4") => `(tactic| skip)
local macro_rules | `(tactic| walk_at "no key 5") => `(tactic| skip)
def DueOut (h₀ : Heap) (L : Addr) (m : Str → Option Value) (news : Led) (n : Nat) (lo hi : Bool) (many per : Int) (sg : Bool) (s : Shared) (Q : Value → Shared → Prop) : Prop :=
  ∀ (t : Addr) (k : Nat) (tr tc : Tok) (h' : Heap) (tk' : Nat), Fr h₀ L h' m →
    News h₀ L h' ((t, { cls := .type "tuple", data := .seq #[.int (rowsOf n lo hi many sg) tr, .int (costOf n lo hi many sg per) tc, .bool (singleOf many sg)] k }) :: news) → Q (.ref t) { s with heap := h', toks := tk' }
theorem DueOut.use {h₀ : Heap} {L : Addr} {m : Str → Option Value} {news : Led} {n : Nat} {lo hi : Bool} {many per : Int} {sg : Bool} {s : Shared} {Q : Value → Shared → Prop} (hret : DueOut h₀ L m news n lo hi many per sg s Q)
    {R X : Int} {S : Bool} {t : Addr} {k : Nat} {tr tc : Tok} {h' : Heap} {tk' : Nat} (F : Fr h₀ L h' m) (N : News h₀ L h' ((t, { cls := .type "tuple", data := .seq #[.int R tr, .int (R * per + X) tc, .bool S] k }) :: news))
    (eS : S = singleOf many sg) (eR : R = rowsOf n lo hi many sg) (eX : X = if ledOf n lo hi many = true then 4 * manyOf many else 0) : Q (.ref t) { s with heap := h', toks := tk' } := by
  subst eS eX eR
  exact hret t k tr tc h' tk' F N
theorem due_many {many : Int} (h0 : 0 ≤ many) : (if many > 1 then many else 1) = manyOf many := by
  unfold manyOf
  split <;> split <;> omega
theorem due_rows {n : Nat} {lo hi : Bool} {many : Int} {sg : Bool} {r : Int} (h0 : 0 ≤ many) (h : (if sg = true ∨ 1000 < partsOf n lo hi many then 1 else Int.fdiv 1000 (partsOf n lo hi many)) = r) :
    (if (r * if many > 1 then many else 1) < 1000 then r * (if many > 1 then many else 1) else 1000) = rowsOf n lo hi many sg := by
  unfold rowsOf
  rw [h, due_many h0]
  generalize r * manyOf many = y
  split <;> omega
theorem due_led {e : Int} {lo hi : Bool} {many : Int} (h0 : 0 ≤ e) (h1 : 0 ≤ many) (h : 0 < e + many) : ledOf e.toNat lo hi many = true := by
  unfold ledOf
  by_cases hm : 0 < many
  · simp [hm]
  · have h : 0 < e.toNat := by omega
    simp only [h, decide_true, Bool.true_or]
theorem due_lo {n : Nat} {lo hi : Bool} {many : Int} (h : lo = true) : ledOf n lo hi many = true := by subst h; exact led_low
theorem due_hi {n : Nat} {lo hi : Bool} {many : Int} (h : hi = true) : ledOf n lo hi many = true := by subst h; exact led_high
theorem due_not {e : Int} {lo hi : Bool} {many : Int} (h0 : 0 ≤ e) (h1 : 0 ≤ many) (h : ¬ 0 < e + many) (hlo : lo = false) (hhi : hi = false) : ¬ ledOf e.toNat lo hi many = true := by
  subst hlo hhi
  have h2 : ¬ 0 < e.toNat := by omega
  have h3 : ¬ 0 < many := by omega
  simp only [ledOf, h2, h3]; decide
theorem due_single {many : Int} (h0 : 0 ≤ many) : (many == 0) = singleOf many true := by
  unfold singleOf
  by_cases h : many = 0
  · subst h; rfl
  · have h' : 0 < many := by omega
    simp [h, h']
def DueC (w : World) (mean : ExcName → Option Value) (mg mb : Str → Option Value) (f : Addr) : Prop :=
  ∀ (dp un : Nat) (gd : Option (List Code)) (cn : Str) (cs : Scope) (a : Addr) (ccd : Value) (cl : List (Str × Addr)) (outer : List Env) (A₀ : Around) (base h₀ : Heap) (L : Addr) (m : Str → Option Value) (s : Shared) (Q E : Value → Shared → Prop)
    (news : Led) (e : Int) (te : Tok) (lo hi : Bool) (many : Int) (tm : Tok) (per : Int) (tp : Tok) (sg : Bool),
    Below A₀ base outer h₀ → Fr h₀ L s.heap m → (hd.heap_39 w.params).In h₀ → News h₀ L s.heap news → TopOf mean mg mb h₀ → cs.kind = .function →
    0 ≤ e → e ≤ 4 → 0 ≤ many → many ≤ 11 → 2 ≤ per → per ≤ 3 → dp + 8 < recursionLimit → un + 64 < cLine →
    DueOut h₀ L m news e.toNat lo hi many per sg s Q →
    wpAny (model PySem.Challenge.rw_xm0754_01.row.prog w) (ktrTop dp un gd cn cs L a ccd cl outer) (call (.ref f) [.int e te, .bool lo, .bool hi, .int many tm, .int per tp, .bool sg]) Q E s
local macro_rules | `(tactic| k_room) => `(tactic| ktr_room)
theorem parts_eq {e : Int} {lo hi : Bool} {many : Int} (he : 0 ≤ e) :
    (10 : Int) ^ (e + if decide (many > 0) = true then 1 else 0).toNat * 4 ^ ((if lo = true then (1 : Int) else 0) + if hi = true then 1 else 0).toNat = partsOf e.toNat lo hi many := by
  unfold partsOf
  have h1 : (e + if decide (many > 0) = true then 1 else 0).toNat = e.toNat + (if 0 < many then 1 else 0) := by
    by_cases h : 0 < many <;> simp [h] <;> omega
  have h2 : ((if lo = true then (1 : Int) else 0) + if hi = true then 1 else 0).toNat = (if lo = true then 1 else 0) + (if hi = true then 1 else 0) := by cases lo <;> cases hi <;> rfl
  rw [h1, h2]
theorem parts_pos (n : Nat) (lo hi : Bool) (many : Int) : 1 ≤ partsOf n lo hi many := by
  unfold partsOf
  have h1 : 0 < (10 : Int) ^ (n + (if 0 < many then 1 else 0)) := Int.pow_pos (by omega)
  have h2 : 0 < (4 : Int) ^ ((if lo = true then 1 else 0) + (if hi = true then 1 else 0)) := Int.pow_pos (by omega)
  have := Int.mul_pos h1 h2
  omega
theorem mul_pow_ok (a : Int) (lo hi : Bool) : IntMulOk a (4 ^ ((if lo = true then (1 : Int) else 0) + if hi = true then 1 else 0).toNat) := by
  cases lo <;> cases hi <;> exact IntMulOk.of_right (intBits_le_64 (by decide) (by decide))
local macro_rules | `(tactic| walk_at "binaryOp Mult int int") => `(tactic| (k_here; (with_reducible show wpAny _ _ (binaryOp Operator.Mult (Value.int (_ ^ _) _) (Value.int (_ ^ _) _)) _ _ _); refine stop ?_))
set_option maxHeartbeats 8000000 in
theorem due_c (w : World) (mean : ExcName → Option Value) (mg mb : Str → Option Value) : DueC w mean mg mb 254 := by
  unfold DueC
  k_fill
  w_top off
  intro dp un gd cn cs a ccd cl outer A₀ base h₀ L m s Q E news e te lo hi many tm per tp sg B F X N T hk he0 he4 hm0 hm hp2 hp3 hd hu hret
  refine wpAny_call ?_
  k_dflt cell_enter
  k_steps
  unfold Stop
  refine mul_int ?_ (mul_pow_ok _ _ _)
  rw [parts_eq he0]
  have hP1 := parts_pos e.toNat lo hi many
  generalize hP : partsOf e.toNat lo hi many = P
  rw [hP] at hP1
  cases sg <;> k_steps
  all_goals (
    subst hP
    refine DueOut.use hret (by k_asm) (by k_asm) ?_ ?_ ?_
    · first | exact single_f | exact due_single hm0
    · first
        | exact due_rows hm0 (if_pos (.inl rfl))
        | exact due_rows hm0 (if_pos (.inr (by assumption)))
        | exact due_rows hm0 (if_neg (by rintro (h | h); exact Bool.noConfusion h; exact absurd h (by assumption)))
    · first
        | exact led_t (due_led he0 hm0 (by assumption)) (due_many hm0)
        | exact led_t (due_lo (by assumption)) (due_many hm0)
        | exact led_t (due_hi (by assumption)) (due_many hm0)
        | exact led_f (due_not he0 hm0 (by assumption) (by assumption) (by assumption)))
end PartLDue
end Mine

/-! LRight -/
namespace Mine
section PartLRight
open PySem.Spec PySem.Calls
local macro_rules | `(tactic| walk_at "no key 0") => `(tactic| skip)
local macro_rules | `(tactic| walk_at "no key 1") => `(tactic| skip)
local macro_rules | `(tactic| walk_at "no key 2") => `(tactic| skip)
local macro_rules | `(tactic| walk_at "no key 3") => `(tactic| skip)
local macro_rules | `(tactic| walk_at "no key 4") => `(tactic| skip)
local macro_rules | `(tactic| walk_at "no key 5") => `(tactic| skip)
local macro_rules | `(tactic| walk_at "no key 6") => `(tactic| skip)
def RightC (w : World) (mean : ExcName → Option Value) (mg mb : Str → Option Value) (f : Addr) : Prop :=
  ∀ (dp un : Nat) (gd : Option (List Code)) (cn : Str) (cs : Scope) (a : Addr) (ccd : Value) (cl : List (Str × Addr)) (outer : List Env) (A₀ : Around) (base h₀ : Heap) (L : Addr) (m : Str → Option Value) (s : Shared) (Q E : Value → Shared → Prop)
    (news : Led) (e : Int) (te : Tok) (lo hi : Bool) (many : Int) (tm : Tok) (per : Int) (tp : Tok) (sg : Bool),
    Below A₀ base outer h₀ → Fr h₀ L s.heap m → (hd.heap_39 w.params).In h₀ → News h₀ L s.heap news → TopOf mean mg mb h₀ → cs.kind = .function →
    0 ≤ e → e ≤ 4 → 0 ≤ many → many ≤ 11 → 2 ≤ per → per ≤ 3 → dp + 16 < recursionLimit → un + 128 < cLine →
    (∀ (h' : Heap) (tk' : Nat), Fr h₀ L h' m → News h₀ L h' news → Q (.bool true) { s with heap := h', toks := tk' }) →
    wpAny (model PySem.Challenge.rw_xm0754_01.row.prog w) (ktrTop dp un gd cn cs L a ccd cl outer) (call (.ref f) [.int e te, .bool lo, .bool hi, .int many tm, .int per tp, .bool sg]) Q E s
local macro_rules | `(tactic| k_room) => `(tactic| ktr_room)
local macro_rules | `(tactic| walk_at "call ref") => `(tactic| (k_here; (with_reducible first | show wpAny _ _ (call (Value.ref 247) _) _ _ _ | show wpAny _ _ (call (Value.ref 92) _) _ _ _ | show wpAny _ _ (call (Value.ref 254) _) _ _ _); refine stop ?_))
set_option maxHeartbeats 8000000 in
theorem right_c (w : World) (mean : ExcName → Option Value) (mg mb : Str → Option Value) : RightC w mean mg mb 261 := by
  unfold RightC
  k_fill
  w_top off
  intro dp un gd cn cs a ccd cl outer A₀ base h₀ L m s Q E news e te lo hi many tm per tp sg B F X N T hk he0 he4 hm0 hm hp2 hp3 hd hu hret
  have hPath := path_c w mean mg mb
  have hGuess := guess_c w mean mg mb
  have hDue := due_c w mean mg mb
  unfold PathC at hPath
  unfold GuessC at hGuess
  unfold DueC at hDue
  refine wpAny_call ?_
  k_dflt cell_enter
  k_steps
  unfold Stop
  k_dflt (refine hPath _ _ _ _ _ _ _ _ _ _ _ _ _ _ _ _ _ _ _ _ _ _ _ _ (by k_asm) (by k_asm) (by k_asm) (by k_asm) (by k_asm) (by first | exact rfl | assumption) he0 he4 hm0 hm (by ktr_room) (by ktr_units) ?_)
  unfold PathOut
  intro p dx eq t0 t1 t2 t3 t4 t5 t6 t7 t8 t9 t10 t11 t12 t13 t14 vk vi va vlow vhigh vla vha vin vina vc vd vs vr vco vals k nw h' tk' F' N' hne ho1 ho2 hsub hlen hlo hhi hin
  k_steps
  unfold Stop
  k_dflt (refine hGuess _ _ _ _ _ _ _ _ _ _ _ _ _ _ _ _ _ _ _ _ _ _ _ _ _ _ _ _ _ _ _ _ _ _ _ _ _ _ _ _ _ _ _ _ _ _ _ _ _ _ _ _ _ _ _ _ _ _ (by k_asm) (by k_asm) (by k_asm) (by k_asm) (by k_asm) (by first | exact rfl | assumption) hne ho1 ho2 (by omega) hlo hhi hin hm hp2 hp3 (by ktr_room) (by ktr_units) ?_)
  rw [hlen]
  unfold GuessOut
  intro tr tc h' tk' F' N'
  k_steps
  unfold Stop
  k_dflt (refine hDue _ _ _ _ _ _ _ _ _ _ _ _ _ _ _ _ _ _ _ _ _ _ _ _ _ _ _ (by k_asm) (by k_asm) (by k_asm) (by k_asm) (by k_asm) (by first | exact rfl | assumption) he0 he4 hm0 hm hp2 hp3 (by ktr_room) (by ktr_units) ?_)
  unfold DueOut
  intro tu k' tr' tc' h' tk' F' N'
  k_steps
  have e9 : (costOf e.toNat lo hi many sg per + 3 * rowsOf e.toNat lo hi many sg == rowsOf e.toNat lo hi many sg * 3 + costOf e.toNat lo hi many sg per) = true := by
    rw [beq_iff_eq]; omega
  rw [e9]
  exact hret _ _ (by k_asm) (News.perm (by k_asm) fun q hq => by simp only [List.mem_cons, hsub q hq, or_true])
end PartLRight
end Mine

/-! LDrawn -/
namespace Mine
section PartLDrawn
open PySem.Spec PySem.Calls
local macro_rules | `(tactic| walk_at "no key 0") => `(tactic| skip)
local macro_rules | `(tactic| walk_at "no key 1") => `(tactic| skip)
local macro_rules | `(tactic| walk_at "no key 2") => `(tactic| skip)
local macro_rules | `(tactic| walk_at "no key 3") => `(tactic| skip)
local macro_rules | `(tactic| walk_at "no key 4") => `(tactic| skip)
local macro_rules | `(tactic| walk_at "no key 5") => `(tactic| skip)
local macro_rules | `(tactic| walk_at "no key 6") => `(tactic| skip)
local macro_rules | `(tactic| walk_at "no key 7") => `(tactic| skip)
theorem swap2 {h₀ h : Heap} {L : Addr} {a b : Addr × Obj} {R : Led} (N : News h₀ L h (a :: b :: R)) : News h₀ L h (b :: a :: R) := fun p hp => N p (by
  simp only [List.mem_cons] at hp ⊢
  rcases hp with h | h | h <;> simp [h])
theorem menu_bounds {d : Int} (h0 : 0 ≤ d) (h1 : d < 6) : 0 ≤ [(0 : Int), 0, 1, 2, 3, 11].getD d.toNat 0 ∧ [(0 : Int), 0, 1, 2, 3, 11].getD d.toNat 0 ≤ 11 := by
  have h : d = 0 ∨ d = 1 ∨ d = 2 ∨ d = 3 ∨ d = 4 ∨ d = 5 := by omega
  rcases h with rfl | rfl | rfl | rfl | rfl | rfl <;> decide
def DrawnC (w : World) (mean : ExcName → Option Value) (mg mb : Str → Option Value) (f : Addr) : Prop :=
  ∀ (dp un : Nat) (gd : Option (List Code)) (cn : Str) (cs : Scope) (a : Addr) (ccd : Value) (cl : List (Str × Addr)) (outer : List Env) (A₀ : Around) (base h₀ : Heap) (L : Addr) (m : Str → Option Value) (s : Shared) (Q E : Value → Shared → Prop)
    (news : Led) (src : Addr) (b : Int) (tb : Tok) (mi : Int) (tm : Tok) (n : Nat),
    Below A₀ base outer h₀ → Fr h₀ L s.heap m → (hd.heap_39 w.params).In h₀ → News h₀ L s.heap ((src, Big b tb mi tm n) :: news) → (∀ p ∈ news, p.1 ≠ src) → TopOf mean mg mb h₀ → cs.kind = .function →
    0 ≤ b → 0 ≤ mi → mi < 2147483648 → dp + 32 < recursionLimit → un + 256 < cLine →
    (∀ (b' : Int) (tb' : Tok) (m' : Int) (tm' : Tok) (h' : Heap) (tk' : Nat), 0 ≤ b' → 0 ≤ m' → m' < 2147483648 → Fr h₀ L h' m → News h₀ L h' ((src, Big b' tb' m' tm' n) :: news) → Q (.bool true) { s with heap := h', toks := tk' }) →
    wpAny (model PySem.Challenge.rw_xm0754_01.row.prog w) (ktrTop dp un gd cn cs L a ccd cl outer) (call (.ref f) [.ref src]) Q E s
local macro_rules | `(tactic| k_room) => `(tactic| ktr_room)
local macro_rules | `(tactic| walk_at "call ref") => `(tactic| (k_here; (with_reducible first | show wpAny _ _ (call (Value.ref 235) _) _ _ _ | show wpAny _ _ (call (Value.ref 261) _) _ _ _); refine stop ?_))
set_option maxHeartbeats 8000000 in
theorem drawn_c (w : World) (mean : ExcName → Option Value) (mg mb : Str → Option Value) : DrawnC w mean mg mb 268 := by
  unfold DrawnC
  k_fill
  w_top off
  intro dp un gd cn cs a ccd cl outer A₀ base h₀ L m s Q E news src b tb mi tm n B F X N hne T hk hb0 hm0 hn0 hd hu hret
  have hTake := take_c w mean mg mb
  have hRight := right_c w mean mg mb
  unfold TakeC at hTake
  unfold RightC at hRight
  refine wpAny_call ?_
  k_dflt cell_enter
  k_steps
  unfold Stop
  k_dflt (refine hTake _ _ _ _ _ _ _ _ _ _ _ _ _ _ _ _ _ _ _ _ _ _ _ _ _ _ (by k_asm) (by k_asm) (by k_asm) (by first | k_asm | exact swap2 (by k_asm)) (by repeat (first | exact hne | refine List.forall_mem_cons.mpr ⟨by k_ne, ?_⟩)) (by k_asm) (by first | exact rfl | assumption) hb0 hm0 hn0 (by decide) (by decide) (by ktr_room) (by ktr_units) ?_)
  intro d1 td1 b1 tb1 m1 tm1 h' tk' hl1 hh1 hb1 hm1 hn1 F' N'
  k_steps
  unfold Stop
  k_dflt (refine hTake _ _ _ _ _ _ _ _ _ _ _ _ _ _ _ _ _ _ _ _ _ _ _ _ _ _ (by k_asm) (by k_asm) (by k_asm) (by first | k_asm | exact swap2 (by k_asm)) (by repeat (first | exact hne | refine List.forall_mem_cons.mpr ⟨by k_ne, ?_⟩)) (by k_asm) (by first | exact rfl | assumption) hb1 hm1 hn1 (by decide) (by decide) (by ktr_room) (by ktr_units) ?_)
  intro d2 td2 b2 tb2 m2 tm2 h' tk' hl2 hh2 hb2 hm2 hn2 F' N'
  k_steps
  unfold Stop
  k_dflt (refine hTake _ _ _ _ _ _ _ _ _ _ _ _ _ _ _ _ _ _ _ _ _ _ _ _ _ _ (by k_asm) (by k_asm) (by k_asm) (by first | k_asm | exact swap2 (by k_asm)) (by repeat (first | exact hne | refine List.forall_mem_cons.mpr ⟨by k_ne, ?_⟩)) (by k_asm) (by first | exact rfl | assumption) hb2 hm2 hn2 (by decide) (by decide) (by ktr_room) (by ktr_units) ?_)
  intro d3 td3 b3 tb3 m3 tm3 h' tk' hl3 hh3 hb3 hm3 hn3 F' N'
  k_steps
  unfold Stop
  k_dflt (refine hTake _ _ _ _ _ _ _ _ _ _ _ _ _ _ _ _ _ _ _ _ _ _ _ _ _ _ (by k_asm) (by k_asm) (by k_asm) (by first | k_asm | exact swap2 (by k_asm)) (by repeat (first | exact hne | refine List.forall_mem_cons.mpr ⟨by k_ne, ?_⟩)) (by k_asm) (by first | exact rfl | assumption) hb3 hm3 hn3 (by decide) (by decide) (by ktr_room) (by ktr_units) ?_)
  intro d4 td4 b4 tb4 m4 tm4 h' tk' hl4 hh4 hb4 hm4 hn4 F' N'
  k_steps
  unfold Stop
  k_dflt (refine hTake _ _ _ _ _ _ _ _ _ _ _ _ _ _ _ _ _ _ _ _ _ _ _ _ _ _ (by k_asm) (by k_asm) (by k_asm) (by first | k_asm | exact swap2 (by k_asm)) (by repeat (first | exact hne | refine List.forall_mem_cons.mpr ⟨by k_ne, ?_⟩)) (by k_asm) (by first | exact rfl | assumption) hb4 hm4 hn4 (by decide) (by decide) (by ktr_room) (by ktr_units) ?_)
  intro d5 td5 b5 tb5 m5 tm5 h' tk' hl5 hh5 hb5 hm5 hn5 F' N'
  k_steps
  unfold Stop
  k_dflt (refine hTake _ _ _ _ _ _ _ _ _ _ _ _ _ _ _ _ _ _ _ _ _ _ _ _ _ _ (by k_asm) (by k_asm) (by k_asm) (by first | k_asm | exact swap2 (by k_asm)) (by repeat (first | exact hne | refine List.forall_mem_cons.mpr ⟨by k_ne, ?_⟩)) (by k_asm) (by first | exact rfl | assumption) hb5 hm5 hn5 (by decide) (by decide) (by ktr_room) (by ktr_units) ?_)
  intro d6 td6 b6 tb6 m6 tm6 h' tk' hl6 hh6 hb6 hm6 hn6 F' N'
  k_steps
  unfold Stop
  have hmenu := menu_bounds hl2 hh2
  k_dflt (refine hRight _ _ _ _ _ _ _ _ _ _ _ _ _ _ _ _ _ _ _ _ _ _ _ _ _ _ _ (by k_asm) (by k_asm) (by k_asm) (by k_asm) (by k_asm) (by first | exact rfl | assumption) hl1 (by omega) hmenu.1 hmenu.2 (by omega) (by omega) (by ktr_room) (by ktr_units) ?_)
  intro h' tk' F' N'
  k_steps
  exact hret _ _ _ _ _ _ hb6 hm6 hn6 (by k_asm) (News.perm (by k_asm) (List.forall_mem_cons.mpr ⟨by k_mem, fun q hq => by simp only [List.mem_cons, hq, or_true]⟩))
end PartLDrawn
end Mine

/-! LLaw -/
namespace Mine
section PartLLaw
open PySem.Spec PySem.Calls
local macro_rules | `(tactic| walk_at "no key 0") => `(tactic| skip)
local macro_rules | `(tactic| walk_at "no key 1") => `(tactic| skip)
local macro_rules | `(tactic| walk_at "no key 2") => `(tactic| skip)
local macro_rules | `(tactic| walk_at "no key 3") => `(tactic| skip)
def PoolJ (src cell : Addr) (o : Obj) (own : Led) (nw : Led) : Prop := ∃ b tb mi tm n, nw = (src, Big b tb mi tm n) :: (cell, o) :: own ∧ 0 ≤ b ∧ 0 ≤ mi ∧ mi < 2147483648
theorem rot4 {h₀ h : Heap} {L : Addr} {a b c d : Addr × Obj} {R : Led} (N : News h₀ L h (a :: b :: c :: d :: R)) : News h₀ L h (d :: a :: b :: c :: R) := fun p hp => N p (by
  simp only [List.mem_cons] at hp ⊢
  rcases hp with h | h | h | h | h <;> simp [h])
theorem rot4b {a b c d e : Addr × Obj} {R : Led} : ∀ p ∈ a :: b :: c :: d :: e :: R, p ∈ d :: a :: b :: c :: e :: R := fun p hp => by
  simp only [List.mem_cons] at hp ⊢
  rcases hp with h | h | h | h | h | h <;> simp [h]
local macro_rules | `(tactic| walk_at "eval ListComp") => `(tactic| (k_here; k_dflt (refine LCt.ListComp_T (F₀ := by k_asm) (by with_unfolding_all rfl) (by decide) (by rfl) (by decide) (by rfl) ?_)))
local macro_rules | `(tactic| walk_at "CompSrcT") => `(tactic| (refine stop ?_))
local macro_rules | `(tactic| walk_at "compareOp NotEq ref ref") => `(tactic| (k_here; (with_reducible rename MyMark => mk9); (with_reducible show wpAny _ _ (compareOp CmpOp.NotEq (Value.ref _) (Value.ref _)) _ _ _); k_dflt (refine ne_nil (by is_list) (by is_list) (by rfl) (by ktr_units) ?_)))
local macro_rules | `(tactic| walk_at "call ref") => `(tactic| (k_here; (with_reducible first | show wpAny _ _ (call (Value.ref 247) _) _ _ _ | show wpAny _ _ (call (Value.ref 92) _) _ _ _ | show wpAny _ _ (call (Value.ref 268) _) _ _ _); refine stop ?_))
local macro_rules | `(tactic| walk_at "exec For Name Call cons nil") => `(tactic| (k_here; refine stop ?_))
local macro_rules | `(tactic| walk_at "pyIter ref") => `(tactic| (k_here; refine stop ?_))
set_option maxHeartbeats 8000000 in
theorem law_holds : PySem.Challenge.rw_xm0754_01.Holds := hd (by
  w_strict (
    k_go0
    all_goals try k_fold
    k_steps
    unfold Stop
    have hPath := @path_c
    have hGuess := @guess_c
    have hDrawn := @drawn_c
    unfold PathC at hPath
    unfold GuessC at hGuess
    unfold DrawnC at hDrawn
    k_dflt (refine hPath _ _ _ _ _ _ _ _ _ _ _ _ _ _ _ _ _ _ _ _ _ _ _ _ _ _ _ _ (by k_asm) (by k_asm) (by k_asm) (by k_asm) (by k_asm) (by exact rfl) (by decide) (by decide) (by decide) (by decide) (by ktr_room) (by ktr_units) ?_)
    unfold PathOut
    intro p dx eq t0 t1 t2 t3 t4 t5 t6 t7 t8 t9 t10 t11 t12 t13 t14 vk vi va vlow vhigh vla vha vin vina vc vd vs vr vco vals k nw h' tk' F' N' hne ho1 ho2 hsub hlen hlo hhi hin
    k_steps
    unfold Stop
    k_dflt (refine hGuess _ _ _ _ _ _ _ _ _ _ _ _ _ _ _ _ _ _ _ _ _ _ _ _ _ _ _ _ _ _ _ _ _ _ _ _ _ _ _ _ _ _ _ _ _ _ _ _ _ _ _ _ _ _ _ _ _ _ _ _ _ _ (by k_asm) (by k_asm) (by k_asm) (by k_asm) (by k_asm) (by exact rfl) hne ho1 ho2 (by rw [hlen]; decide) hlo hhi hin (by decide) (by decide) (by decide) (by ktr_room) (by ktr_units) ?_)
    rw [hlen]
    unfold GuessOut
    intro tr tc h' tk' F' N'
    k_steps
    unfold Stop
    have Nc := News.perm (by k_asm) (fun q hq => List.mem_cons_of_mem _ (List.mem_cons_of_mem _ (List.mem_cons_of_mem _ (List.mem_cons_of_mem _ (List.mem_cons_of_mem _ (hsub q hq))))))
    rename Fr _ _ _ _ => lF
    with_unfolding_all refine' For_invVF lF ?k1 ?k2 ?_
    case k1 => exact rfl
    case k2 => exact rfl
    k_steps
    unfold Stop
    refine iter_rng (CellJ _) (by rfl) (by assumption) ?hs (rangeSize_nat _ _) (by k_asm) (by k_asm) ⟨_, _, rfl, by assumption⟩ ?turn ?done
    case hs => exact small_one (by decide) (by decide) (by (repeat' split) <;> omega) (by (repeat' split) <;> omega)
    case turn =>
      intro i t nx h' tk' own hi hoff hJ F' N'
      obtain ⟨o, v, rfl, hd⟩ := hJ
      have hk1 : (i : Int) ≤ 1 := by
        revert hi
        (repeat' split) <;> omega
      simp only [List.cons_append, List.nil_append] at N'
      simp only [List.map_cons, List.map_nil] at hoff
      have mk0 : MyMark := MyMark.mk
      k_steps
      all_goals (
        unfold Stop
        k_dflt (refine LCt.CompSrcT.range (n := 4) (by rfl) (by k_asm) (by k_asm) (by assumption) (by decide) (by rfl) (by rw [PySem.sizeLine_eq]; omega) ?_)
        intro g'
        refine comp_none (PoolJ _ _ _ _) ⟨_, _, _, _, _, rfl, Int.mul_nonneg (by split <;> omega) (by split <;> omega), Int.fmod_nonneg_of_pos _ (by omega), Int.lt_trans (Int.fmod_lt_of_pos _ (by omega)) (by omega)⟩ ?_ ?_
        · intro v' I' oI' C' oC' D' m' nw h' tk' E' hC' hx' F' N' off' ne' hJ
          obtain ⟨b, tb, mi, tm, n', rfl, hb, hm, hm2⟩ := hJ
          have o3 := off'
          simp only [LCg.Off3] at o3
          k_steps
          unfold Stop
          k_dflt (refine hDrawn _ _ _ _ _ _ _ _ _ _ _ _ _ _ _ _ _ _ _ _ _ _ _ _ _ _ _ _ (by k_asm) (by k_asm) (by k_asm) (rot4 (by k_asm)) (List.forall_mem_cons.mpr ⟨Ne.symm o3.1.1, List.forall_mem_cons.mpr ⟨Ne.symm o3.1.2.1, List.forall_mem_cons.mpr ⟨Ne.symm o3.1.2.2, List.forall_mem_cons.mpr ⟨by k_ne, all_ne (by tbn_find)⟩⟩⟩⟩) (by k_asm) (by exact rfl) hb hm hm2 (by ktr_room) (by ktr_units) ?_)
          intro b' tb' m' tm' h' tk' hb' hm' hm2' F' N'
          k_steps
          exact ⟨rfl, LCg.CompEnd.intro (by k_asm) (by k_asm) ((_, Big b' tb' m' tm' n') :: _ :: own) rot4b ⟨off'.1, off'.2⟩ trivial ⟨_, _, _, _, _, rfl, hb', hm', hm2'⟩⟩
        · intro nw hJ
          obtain ⟨b, tb, mi, tm, n', rfl, hb, hm, hm2⟩ := hJ
          k_steps
          exact InvEndG.intro (by k_asm) (by k_asm) ⟨fun z hz => if_neg hz, _, _, rfl, by assumption⟩ hoff (List.forall_mem_cons.mpr ⟨by k_mem, fun _ h => nomatch h⟩) (fun q hq => by simp only [List.mem_cons, hq, or_true]))
    case done =>
      intro u nx h' tk' hJ F' N'
      dsimp only
      k_steps))

end PartLLaw
end Mine

theorem PySem.Challenge.cw_xm0754_01_holds : PySem.Challenge.rw_xm0754_01.Holds :=
  Mine.law_holds
