import PyProof.Rows.All
import Wide.All
import OpenK.AllK
import Wide.FinOn
import PySem.Challenge.RW_ov0049_01
open PySem PySem.W PyProof.Rows PySem.Calls
set_option Elab.async false
set_option maxRecDepth 100000
set_option maxHeartbeats 8000000
set_option linter.unusedVariables false
set_option linter.unusedSimpArgs false
set_option linter.defProp false
namespace Mine

def isBind : Stmt → Bool
  | .Assign .. => false
  | _ => true
def viewQ : Program := { PySem.Challenge.pw_ov0049_01 with main := { PySem.Challenge.pw_ov0049_01.main with body := PySem.Challenge.pw_ov0049_01.main.body.filter isBind } }
def runG (stp : SharedT → Thread → Option (SharedT × Thread)) (ok : Thread → Bool) : Nat → SharedT → Thread → Option SharedT
  | 0, _, _ => none
  | n + 1, s, t => match through t with
    | true => some s
    | false => match ok t with
      | false => none
      | true => match stp s t with
        | some r => runG stp ok n r.1 r.2
        | none => none
theorem runG_ok {tb : String → Option Builtin} {p : Program} {w : World} {n₀ : Nat} {ann : Option Value} : ∀ {n : Nat} {s s' : SharedT} {t : Thread}, runG (stepT (denote tb) p w) (stepOk n₀ ann) n s t = some s' → topRun tb p w n₀ ann n s.abs t = some s'.abs
  | 0, _, _, _, h => by cases h
  | n + 1, s, s', t, h => by
    unfold runG at h
    unfold topRun
    cases ht : through t with
    | true => rw [ht] at h; cases h; rfl
    | false =>
      rw [ht] at h
      cases hk : stepOk n₀ ann t with
      | false => rw [hk] at h; cases h
      | true =>
        rw [hk] at h
        cases hs : stepT (denote tb) p w s t with
        | none => rw [hs] at h; cases h
        | some r => obtain ⟨s₂, t₂⟩ := r; rw [hs] at h; rw [stepT_spec hs]; exact runG_ok h
def treeOf : List Obj → Nat → BT → BT
  | [], _, t => t
  | o :: r, i, t => treeOf r (i + 1) (t.ins i o)
noncomputable def bootT (P : Params) : BT := treeOf (boot_heap P).objs.toList 0 .nil
theorem bootT_ok (P : Params) : absHeap (bootT P) (boot_heap P).objs.size (boot_heap P).life = boot_heap P := by
  kernel_rfl!
noncomputable def startT (w : World) (os : OsState) : SharedT := ⟨bootT w.params, (boot_heap w.params).objs.size, (boot_heap w.params).life, Array.mk [], boot_drawn, boot_toks, os⟩
theorem leftO_tree {p q : Program} {loose : List Str} {Xt : Shared → Bool} {α : Type} {Yf : Shared → α} {Ya : World → α} {N : Nat}
    (op : ∀ w : World, (fencedOpening treeTable p w N).map (fun s => (s.heap, s.gens, s.drawn, s.toks)) = some (boot_heap w.params, Array.mk [], boot_drawn, boot_toks))
    (h : ∀ (w : World) (os : OsState), (runG (stepT (denote treeTable) p w) (stepOk (boot_heap w.params).objs.size ((boot_heap w.params).nsMap mainGlobals "__annotations__")) N (startT w os) (topStub p)).map (fun t =>
      ((boot_heap w.params).isNs mainGlobals && (staticsOk (importedModules p.main.body) (boot_heap w.params) t.abs.heap && namesBound p t.abs.heap && gensDone t.abs && laidKept (boot_heap w.params) t.abs.heap), openSeen q loose (importedModules p.main.body) Xt true t.abs, Yf t.abs)) = some (true, openGood q loose, Ya w)) :
    LeftO p q loose Xt Yf Ya N := fun w => by
  obtain ⟨⟨h0, gs, d, k, os⟩, e, e'⟩ := Option.map_eq_some_iff.mp (op w)
  have e2 : h0 = boot_heap w.params ∧ gs = Array.mk [] ∧ d = boot_drawn ∧ k = boot_toks := by simpa only [Prod.mk.injEq] using e'
  obtain ⟨rfl, rfl, rfl, rfl⟩ := e2
  obtain ⟨t, ht, hv⟩ := Option.map_eq_some_iff.mp (h w os)
  obtain ⟨v1, v2, v3⟩ : _ ∧ _ ∧ _ := by simpa only [Prod.mk.injEq] using hv
  obtain ⟨c1, c2⟩ := Bool.and_eq_true_iff.mp v1
  have r := runG_ok ht
  have ea : (startT w os).abs = ⟨boot_heap w.params, Array.mk [], boot_drawn, boot_toks, os⟩ := by
    unfold startT SharedT.abs
    rw [bootT_ok]
  rw [ea] at r
  unfold openEnds
  rw [e]
  show (topFrom treeTable p w N _).map _ = _
  have f : topFrom treeTable p w N ⟨boot_heap w.params, Array.mk [], boot_drawn, boot_toks, os⟩ = some t.abs := by
    unfold topFrom
    dsimp only
    rw [c1, r]
    show (match staticsOk (importedModules p.main.body) (boot_heap w.params) t.abs.heap && namesBound p t.abs.heap && gensDone t.abs && laidKept (boot_heap w.params) t.abs.heap with | true => _ | false => _) = _
    rw [c2]
  rw [f]
  exact congrArg some (Prod.ext v2 v3)
section
local macro_rules | `(tactic| o_head $H) => `(tactic| (
  refine holds_open (q := viewQ) (loose := []) (Xt := fun s => xlAt viewQ [] s && recOk (RowW.records (OpenRow.toRowW PySem.Challenge.rw_ov0049_01.row)) s) (XP := XL viewQ []) (Yf := Hook.obs $H) (Ya := Hook.val $H) (YP := Hook.says $H) (N := 2864) ?hl (Hook.of $H) (Hook.keeps $H) (fun s e => xl_of s (Bool.and_eq_true_iff.mp e).1) XL.keeps (by rfl) (by rfl) (by rfl) (fun s e => recFacts_of (Bool.and_eq_true_iff.mp e).2) (by rfl) (by first | assumption | decide +kernel) (by decide +kernel) ⟨rfl, rfl, rfl, rfl, rfl, by decide +kernel⟩ ?hw ?hc;
  (case hl => (refine leftO_tree (boot_open (by kernel_rfl!) (by decide) (fun s => by kernel_rfl!)) ?_; intro w os; rewrite [PySem.W.Fast.te10156331382660048174, PySem.W.Fast.te11892475500146522536, PySem.W.Fast.te14364793385576792824, PySem.W.Fast.te6613529449190102663, PySem.W.Fast.te4187177175401517315, PySem.W.Fast.te5923862056798008813]; kernel_rfl!))))
open_top hd for PySem.Challenge.rw_ov0049_01
end

local macro_rules | `(tactic| walk_at $s:str) => `(tactic| k_extra $s)
local macro_rules | `(tactic| k_room) => `(tactic| ktr_room)
local macro_rules | `(tactic| k_mem) => `(tactic| ((repeat (first | ktr_member | exact List.Mem.head _ | refine List.mem_cons_of_mem _ ?_)); done))
local macro_rules | `(tactic| k_all) => `(tactic| assumption)

section PG1
def Hold (p : Prop) : Prop := p
theorem Hold.of {p : Prop} (h : Hold p) : p := h
theorem Hold.go {p : Prop} (h : p) : Hold p := h

def Knows (m : Str → Option Value) (ps : List (Str × Value)) : Prop := ∀ p ∈ ps, m p.1 = some p.2
theorem know_eq {m : Str → Option Value} {ps : List (Str × Value)} (k : Knows m ps) : kstB m ps = m := by
  funext z; exact kstB_eq k fun _ => rfl
theorem fr_know {h₀ : Heap} {L : Addr} {h : Heap} {m : Str → Option Value} {ps : List (Str × Value)} (k : Knows m ps) (F : Fr h₀ L h m) : Fr h₀ L h (kstB m ps) := by rw [know_eq k]; exact F
theorem fr_knowX {h₀ : Heap} {L : Addr} {h : Heap} {m : Str → Option Value} {ps : List (Str × Value)} {x : Str} {v : Value} (k : Knows m ps) (F : Fr h₀ L h (fun y => if y = x then some v else m y)) : Fr h₀ L h (fun y => if y = x then some v else kstB m ps y) := by
  rw [know_eq k]; exact F
theorem knows_nil {m : Str → Option Value} : Knows m [] := fun _ h => nomatch h
theorem knows_cons {m : Str → Option Value} {p : Str × Value} {ps : List (Str × Value)} (h : m p.1 = some p.2) (k : Knows m ps) : Knows m (p :: ps) := fun q hq => by
  rcases List.mem_cons.mp hq with rfl | hq
  · exact h
  · exact k q hq

def GEnd (h₀ : Heap) (L I : Addr) (it : Obj) (J : (Str → Option Value) → List (Addr × Obj) → Prop) (s₁ s₂ : Shared) : Prop :=
  ∃ h' tk m' all nx, s₂ = { s₁ with heap := h', toks := tk } ∧ Fr h₀ L h' m' ∧ News h₀ L h' all ∧ (I, it) ∈ all ∧ (∀ p ∈ nx, p ∈ all) ∧ (∀ p ∈ nx, p.1 ≠ I) ∧ J m' nx
def GPost (h₀ : Heap) (L I : Addr) (it : Obj) (J : (Str → Option Value) → List (Addr × Obj) → Prop) (s₁ : Shared) (Q : Flow → Shared → Prop) (f : Flow) (s₂ : Shared) : Prop :=
  match f with
  | .ret v => Q (.ret v) s₂
  | .brk => Q .next s₂
  | _ => GEnd h₀ L I it J s₁ s₂

section
variable {prog : Program} {w : World} {A : Around} {E : Value → Shared → Prop} {s : Shared} {env : Env} {h₀ : Heap} {x : Str} {body : List Stmt} {Q : Flow → Shared → Prop}

theorem loop_core {I : Addr} {fp : List Addr} {n : Nat} {P : Nat → Value → Prop} {St : Nat → Heap → Prop} {m₀ : Str → Option Value} {news : List (Addr × Obj)} (fx : List (Addr × Obj)) (J : Nat → (Str → Option Value) → List (Addr × Obj) → Prop)
    (W : Walks prog w A I fp [I] n P St) (hLf : env.locals ∉ fp) (hI : h₀.get? I = none) (hnw : ∀ p ∈ news, p.1 ≠ I) (hst : St 0 s.heap) (hSt : ∀ i h, St i h → ∃ o, h.get? I = some o)
    (hfx : ∀ b ∈ fp, b ≠ I → h₀.get? b = none → ∃ o, (b, o) ∈ fx) (hJ : ∀ i m nx, J i m nx → ∀ p ∈ fx, p ∈ nx) (hIfp : I ∈ fp)
    (F : Fr h₀ env.locals s.heap m₀) (N : News h₀ env.locals s.heap news) (hj : J 0 m₀ news)
    (turn : ∀ i v m₁ nx h tk it, i < n → P i v → J i m₁ nx → (∀ p ∈ nx, p.1 ≠ I) → Fr h₀ env.locals h (fun y => if y = x then some v else m₁ y) → News h₀ env.locals h ((I, it) :: nx) →
      wpAny (model prog w) A (execs body env) (GPost h₀ env.locals I it (J (i + 1)) { s with heap := h, toks := tk } Q) E { s with heap := h, toks := tk })
    (done : ∀ m₁ nx h tk, J n m₁ nx → Fr h₀ env.locals h m₁ → News h₀ env.locals h nx → Q .next { s with heap := h, toks := tk }) :
    LoopAtV prog w A h₀ env x body Q E (.ref I) s := by
  refine ⟨I, fp, [I], n, P, St, m₀, news, J, rfl, W, hLf, ?_, ?_, hst, F, N, hj, ?_, ?_⟩
  · intro b hb; rw [List.mem_singleton.mp hb]; exact hI
  · intro p hp hb; exact hnw p hp (List.mem_singleton.mp hb)
  · rintro i v m₁ nx s₁ own ⟨hh, tk, rfl⟩ hin hP hJ₁ hoff hown hget hall hst₁ F₁ N₁
    obtain ⟨it, hit⟩ := hSt _ _ hst₁
    have hmem : (I, it) ∈ own := hall I hIfp hI it hit
    have N₂ : News h₀ env.locals hh ((I, it) :: nx) := fun p hp => by
      rcases List.mem_cons.mp hp with rfl | hp
      · exact N₁ _ (List.mem_append.mpr (.inl hmem))
      · exact N₁ _ (List.mem_append.mpr (.inr hp))
    refine wpAny_mono (turn i v m₁ nx hh tk it hin hP hJ₁ (fun p hp e => hoff p hp (List.mem_singleton.mpr e)) F₁ N₂) (fun f s₂ p => ?_) fun _ _ e => e
    have fin : GEnd h₀ env.locals I it (J (i + 1)) { s with heap := hh, toks := tk } s₂ → LoopStepU h₀ env.locals [I] own (J (i + 1)) { s with heap := hh, toks := tk } .next s₂ := by
      rintro ⟨h', tk', m', all, nx', e, F', N', hIa, hn, ho, hm⟩
      refine ⟨rfl, h', tk', m', nx', e, F', fun q hq => ?_, fun q hq hI' => ho q hq (List.mem_singleton.mp hI'), hm⟩
      rcases List.mem_append.mp hq with hq | hq
      · by_cases hqI : q.1 = I
        · have h2 : hh.get? q.1 = some q.2 := hget q hq
          rw [hqI, hit] at h2
          have h3 : q = (I, it) := Prod.ext hqI (Option.some.inj h2).symm
          rw [h3]; exact N' _ hIa
        · obtain ⟨o, hob⟩ := hfx q.1 (hown q hq) hqI (N₁ q (List.mem_append.mpr (.inl hq))).2.2
          have h1 := (N₁ _ (List.mem_append.mpr (.inr (hJ _ _ _ hJ₁ _ hob)))).1
          have h2 : hh.get? q.1 = some q.2 := hget q hq
          have h1' : hh.get? q.1 = some o := h1
          rw [h1'] at h2
          have h3 : q = (q.1, o) := Prod.ext rfl (Option.some.inj h2).symm
          rw [h3]; exact N' _ (hn _ (hJ _ _ _ hm _ hob))
      · exact N' _ (hn _ hq)
    cases f with
    | ret v => exact .ret p
    | brk => exact .brk p
    | next => exact .next (fin p)
    | cont => exact .cont (fin p)
  · rintro h' tk m' news' F' N' _ hJn
    exact done m' news' h' tk hJn F' N'

/-- a for over a list of the ledger -/
theorem iter_listG {l : Addr} (items : Array Value) (nn : Nat) {m₀ : Str → Option Value} {news : List (Addr × Obj)} (J : Nat → (Str → Option Value) → List (Addr × Obj) → Prop)
    (hh : A.handled = none) (F : Fr h₀ env.locals s.heap m₀) (N : News h₀ env.locals s.heap news) (hj : J 0 m₀ news) (hJ : ∀ i m nx, J i m nx → (l, listOf items nn) ∈ nx)
    (turn : ∀ (I : Addr) i v m₁ nx h tk it, i < items.size → items[i]? = some v → J i m₁ nx → (∀ p ∈ news, p.1 < I) → (∀ p ∈ nx, p.1 ≠ I) → Fr h₀ env.locals h (fun y => if y = x then some v else m₁ y) → News h₀ env.locals h ((I, it) :: nx) →
      wpAny (model prog w) A (execs body env) (GPost h₀ env.locals I it (J (i + 1)) { s with heap := h, toks := tk } Q) E { s with heap := h, toks := tk })
    (done : ∀ m₁ nx h tk, J items.size m₁ nx → Fr h₀ env.locals h m₁ → News h₀ env.locals h nx → Q .next { s with heap := h, toks := tk }) :
    wpAny (model prog w) A (pyIter (.ref l)) (fun it s₂ => LoopAtV prog w A h₀ env x body Q E it s₂) E s := by
  have hl := hJ _ _ _ hj
  have hol : s.heap.get? l = some (listOf items nn) := (N _ hl).1
  have hls : s.heap.IsList l items := ⟨_, hol, rfl, nn, rfl⟩
  have hne : l ≠ s.heap.objs.size := Nat.ne_of_lt (Heap.lt_size hol)
  refine wpAny_pyIter_list hls ?_
  have W := Walks.list (prog := prog) (w := w) hh s.heap.objs.size l hne items
  have hlt : ∀ p ∈ news, p.1 < s.heap.objs.size := fun p hp => Heap.lt_size (N p hp).1
  refine loop_core [(l, listOf items nn)] J W ?_ (next_is_new F) (fun p hp => Nat.ne_of_lt (hlt p hp)) ⟨⟨_, Heap.get?_push_size _ rfl, rfl, rfl⟩, hls.at fun o e => Heap.get?_push_of_some _ e⟩ ?_ ?_ ?_ (.head _) (F.push _) (fun p hp => ⟨Heap.get?_push_of_some _ (N p hp).1, (N p hp).2⟩) hj ?_ ?_
  · intro hm
    rcases List.mem_cons.mp hm with e | hm
    · exact absurd F.ns.lt (e ▸ Nat.lt_irrefl _)
    · exact (N _ hl).2.1 ((List.mem_singleton.mp hm).symm)
  · rintro i h ⟨⟨o, ho, _⟩, _⟩; exact ⟨o, ho⟩
  · intro b hb hbI _
    rcases List.mem_cons.mp hb with e | hb
    · exact absurd e hbI
    · rw [List.mem_singleton.mp hb]; exact ⟨_, .head _⟩
  · intro i m nx hx p hp
    rw [List.mem_singleton.mp hp]; exact hJ _ _ _ hx
  · exact fun i v m₁ nx h tk it hin hP hJ₁ hoff F₁ N₁ => turn _ i v m₁ nx h tk it hin hP hJ₁ hlt hoff F₁ N₁
  · exact done

/-- a for over a tuple of the ledger -/
theorem iter_tupG {l : Addr} (items : Array Value) (nn : Nat) {m₀ : Str → Option Value} {news : List (Addr × Obj)} (J : Nat → (Str → Option Value) → List (Addr × Obj) → Prop)
    (hh : A.handled = none) (F : Fr h₀ env.locals s.heap m₀) (N : News h₀ env.locals s.heap news) (hj : J 0 m₀ news) (hJ : ∀ i m nx, J i m nx → (l, ({ cls := .type "tuple", data := .seq items nn } : Obj)) ∈ nx)
    (turn : ∀ (I : Addr) i v m₁ nx h tk it, i < items.size → items[i]? = some v → J i m₁ nx → (∀ p ∈ news, p.1 < I) → (∀ p ∈ nx, p.1 ≠ I) → Fr h₀ env.locals h (fun y => if y = x then some v else m₁ y) → News h₀ env.locals h ((I, it) :: nx) →
      wpAny (model prog w) A (execs body env) (GPost h₀ env.locals I it (J (i + 1)) { s with heap := h, toks := tk } Q) E { s with heap := h, toks := tk })
    (done : ∀ m₁ nx h tk, J items.size m₁ nx → Fr h₀ env.locals h m₁ → News h₀ env.locals h nx → Q .next { s with heap := h, toks := tk }) :
    wpAny (model prog w) A (pyIter (.ref l)) (fun it s₂ => LoopAtV prog w A h₀ env x body Q E it s₂) E s := by
  have hl := hJ _ _ _ hj
  have hol : s.heap.get? l = some { cls := .type "tuple", data := .seq items nn } := (N _ hl).1
  have hls : s.heap.IsTuple l items := ⟨_, hol, rfl, nn, rfl⟩
  have hne : l ≠ s.heap.objs.size := Nat.ne_of_lt (Heap.lt_size hol)
  refine wpAny_pyIter_tuple hls ?_
  have W := Walks.tuple (prog := prog) (w := w) hh s.heap.objs.size l hne items
  have hlt : ∀ p ∈ news, p.1 < s.heap.objs.size := fun p hp => Heap.lt_size (N p hp).1
  refine loop_core [(l, { cls := .type "tuple", data := .seq items nn })] J W ?_ (next_is_new F) (fun p hp => Nat.ne_of_lt (hlt p hp)) ⟨⟨_, Heap.get?_push_size _ rfl, rfl, rfl⟩, hls.at fun o e => Heap.get?_push_of_some _ e⟩ ?_ ?_ ?_ (.head _) (F.push _) (fun p hp => ⟨Heap.get?_push_of_some _ (N p hp).1, (N p hp).2⟩) hj ?_ ?_
  · intro hm
    rcases List.mem_cons.mp hm with e | hm
    · exact absurd F.ns.lt (e ▸ Nat.lt_irrefl _)
    · exact (N _ hl).2.1 ((List.mem_singleton.mp hm).symm)
  · rintro i h ⟨⟨o, ho, _⟩, _⟩; exact ⟨o, ho⟩
  · intro b hb hbI _
    rcases List.mem_cons.mp hb with e | hb
    · exact absurd e hbI
    · rw [List.mem_singleton.mp hb]; exact ⟨_, .head _⟩
  · intro i m nx hx p hp
    rw [List.mem_singleton.mp hp]; exact hJ _ _ _ hx
  · exact fun i v m₁ nx h tk it hin hP hJ₁ hoff F₁ N₁ => turn _ i v m₁ nx h tk it hin hP hJ₁ hlt hoff F₁ N₁
  · exact done

/-- a for over a range -/
theorem iter_rangeG {r : Addr} {a₀ b₀ : Int} {t₀ u₀ v₀ : Tok} {n : Nat} {m₀ : Str → Option Value} {news : List (Addr × Obj)} (J : Nat → (Str → Option Value) → List (Addr × Obj) → Prop)
    (hh : A.handled = none) (hr : IsRange s.heap r a₀ b₀ 1 t₀ u₀ v₀) (hsmall : Builtin.Range.small a₀ b₀ 1 = true) (hn : Builtin.Range.rangeSize a₀ b₀ 1 = (n : Int))
    (F : Fr h₀ env.locals s.heap m₀) (N : News h₀ env.locals s.heap news) (hj : J 0 m₀ news)
    (turn : ∀ (I : Addr) (i : Nat) t m₁ nx h tk it, i < n → J i m₁ nx → (∀ p ∈ news, p.1 < I) → (∀ p ∈ nx, p.1 ≠ I) → Fr h₀ env.locals h (fun y => if y = x then some (.int (a₀ + (i : Int)) t) else m₁ y) → News h₀ env.locals h ((I, it) :: nx) →
      wpAny (model prog w) A (execs body env) (GPost h₀ env.locals I it (J (i + 1)) { s with heap := h, toks := tk } Q) E { s with heap := h, toks := tk })
    (done : ∀ m₁ nx h tk, J n m₁ nx → Fr h₀ env.locals h m₁ → News h₀ env.locals h nx → Q .next { s with heap := h, toks := tk }) :
    wpAny (model prog w) A (pyIter (.ref r)) (fun it s₂ => LoopAtV prog w A h₀ env x body Q E it s₂) E s := by
  refine wpAny_pyIter_range hr hsmall ?_
  have W : Walks prog w A s.heap.objs.size [s.heap.objs.size] [s.heap.objs.size] n (fun i v => i < n ∧ ∃ t, v = .int (a₀ + i * 1) t)
      (fun i h => IsRangeIter h s.heap.objs.size (a₀ + (i : Nat) * 1) ((n : Int) - (i : Nat)) 1) := (Walks.range hh _ a₀ 1 n).bound
  have hlt : ∀ p ∈ news, p.1 < s.heap.objs.size := fun p hp => Heap.lt_size (N p hp).1
  refine loop_core [] J W ?_ (next_is_new F) (fun p hp => Nat.ne_of_lt (hlt p hp)) (by show IsRangeIter _ _ _ _ _; rw [hn]; simpa using Heap.get?_push_size _ rfl) ?_ ?_ ?_ (.head _) (F.push _) (fun p hp => ⟨Heap.get?_push_of_some _ (N p hp).1, (N p hp).2⟩) hj ?_ ?_
  · intro hm
    exact absurd F.ns.lt ((List.mem_singleton.mp hm) ▸ Nat.lt_irrefl _)
  · intro i h hI
    exact ⟨_, hI⟩
  · intro b hb hbI _
    exact absurd (List.mem_singleton.mp hb) hbI
  · intro i m nx _ p hp
    cases hp
  · rintro i v m₁ nx h tk it hin ⟨_, t, rfl⟩ hJ₁ hoff F₁ N₁
    rw [Int.mul_one] at F₁
    exact turn _ i t m₁ nx h tk it hin hJ₁ hlt hoff F₁ N₁
  · exact done

theorem while_G {L : Addr} {test : Expr} {body : List Stmt} {pos : Pos} {m : Str → Option Value} {news : List (Addr × Obj)} (J : Nat → (Str → Option Value) → List (Addr × Obj) → Prop)
    (F : Fr h₀ L s.heap m) (N : News h₀ L s.heap news) (hJ : ∃ n, J n m news)
    (turn : ∀ n m₁ news₁ h₁ tk₁, J n m₁ news₁ → Fr h₀ L h₁ m₁ → News h₀ L h₁ news₁ →
      wpAny (model prog w) A (isTrue test env (eval test env)) (fun b s₂ =>
        if b = true then wpAny (model prog w) A (execs body env) (WhileStep2 h₀ L s J Q n) E s₂ else Q .next s₂) E { s with heap := h₁, toks := tk₁ })
    (hE : PassesOwn (model prog w) A env E := by passes_own) :
    wpAny (model prog w) A (exec (.While test body [] pos) env) Q E s :=
  hJ.elim fun _ h => While_inv2 J F N h (fun n m₁ news₁ h₁ tk₁ F₁ N₁ J₁ => turn n m₁ news₁ h₁ tk₁ J₁ F₁ N₁) hE

theorem item_led {L : Addr} {news : List (Addr × Obj)} {value slice : PySem.Expr} {l : Addr} {vs : List Value} {n : Nat} {k : Int} {u : Tok} {v : Value} {Q : Value → Shared → Prop}
    (N : News h₀ L s.heap news) (hm : (l, listOf vs.toArray n) ∈ news) (h0 : 0 ≤ k) (hhi : k < 2 ^ 63) (hx : vs[k.toNat]? = some v) (h : Q v s)
    (hs : subscripted slice false (.ref l) (.int k u) = operate [.ref l, .int k u] (getItem (.ref l) (.int k u)) := by with_unfolding_all rfl) :
    wpAny (model prog w) A (subscriptTail value slice (.ref l) (.int k u)) Q E s :=
  item_litK ⟨_, (N _ hm).1, rfl, n, rfl⟩ h0 hhi hx h hs

theorem GEnd.intro {J : (Str → Option Value) → List (Addr × Obj) → Prop} {L I : Addr} {it : Obj} {s₁ : Shared} {h' : Heap} {tk : Nat} {m' : Str → Option Value} {all : List (Addr × Obj)} (nx : List (Addr × Obj)) (F : Fr h₀ L h' m') (N : News h₀ L h' all) (hI : (I, it) ∈ all)
    (hs : ∀ p ∈ nx, p ∈ all) (ho : ∀ p ∈ nx, p.1 ≠ I) (hJ : J m' nx) : GEnd h₀ L I it J s₁ { s₁ with heap := h', toks := tk } := ⟨h', tk, m', all, nx, rfl, F, N, hI, hs, ho, hJ⟩

def ROEnd (h₀ : Heap) (L I : Addr) (it : Obj) (news : List (Addr × Obj)) (K : (Str → Option Value) → Prop) (s₁ s₂ : Shared) : Prop :=
  ∃ h' tk m' all, s₂ = { s₁ with heap := h', toks := tk } ∧ Fr h₀ L h' m' ∧ News h₀ L h' all ∧ (∀ p ∈ (I, it) :: news, p ∈ all) ∧ K m'
def ROPost (h₀ : Heap) (L I : Addr) (it : Obj) (news : List (Addr × Obj)) (K : (Str → Option Value) → Prop) (s₁ : Shared) (Q : Flow → Shared → Prop) (f : Flow) (s₂ : Shared) : Prop :=
  match f with
  | .ret v => Q (.ret v) s₂
  | .brk => Q .next s₂
  | _ => ROEnd h₀ L I it news K s₁ s₂
theorem ROEnd.intro {K : (Str → Option Value) → Prop} {L I : Addr} {it : Obj} {news : List (Addr × Obj)} {s₁ : Shared} {h' : Heap} {tk : Nat} {m' : Str → Option Value} {all : List (Addr × Obj)} (F : Fr h₀ L h' m') (N : News h₀ L h' all)
    (hs : ∀ p ∈ (I, it) :: news, p ∈ all) (hK : K m') : ROEnd h₀ L I it news K s₁ { s₁ with heap := h', toks := tk } := ⟨h', tk, m', all, rfl, F, N, hs, hK⟩
theorem ro_post {L I : Addr} {it : Obj} {news : List (Addr × Obj)} {K : (Str → Option Value) → Prop} {s₁ : Shared} (hne : ∀ p ∈ news, p.1 ≠ I) (f : Flow) (s₂ : Shared) (h : ROPost h₀ L I it news K s₁ Q f s₂) :
    GPost h₀ L I it (fun m' nx => nx = news ∧ K m') s₁ Q f s₂ := by
  have fin : ROEnd h₀ L I it news K s₁ s₂ → GEnd h₀ L I it (fun m' nx => nx = news ∧ K m') s₁ s₂ := by
    rintro ⟨h', tk, m', all, e, F', N', hs, hK⟩
    exact ⟨h', tk, m', all, news, e, F', N', hs _ (.head _), fun p hp => hs p (.tail _ hp), hne, rfl, hK⟩
  cases f with
  | ret v => exact h
  | brk => exact h
  | next => exact fin h
  | cont => exact fin h

theorem iter_listRO {l : Addr} (items : Array Value) (nn : Nat) {m₀ : Str → Option Value} {news : List (Addr × Obj)} (K : Nat → (Str → Option Value) → Prop)
    (hh : A.handled = none) (F : Fr h₀ env.locals s.heap m₀) (N : News h₀ env.locals s.heap news) (hl : (l, listOf items nn) ∈ news) (hj : K 0 m₀)
    (turn : ∀ (I : Addr) i v m₁ h tk it, i < items.size → items[i]? = some v → K i m₁ → (∀ p ∈ news, p.1 < I) → Fr h₀ env.locals h (fun y => if y = x then some v else m₁ y) → News h₀ env.locals h ((I, it) :: news) →
      wpAny (model prog w) A (execs body env) (ROPost h₀ env.locals I it news (K (i + 1)) { s with heap := h, toks := tk } Q) E { s with heap := h, toks := tk })
    (done : ∀ m₁ h tk, K items.size m₁ → Fr h₀ env.locals h m₁ → News h₀ env.locals h news → Q .next { s with heap := h, toks := tk }) :
    wpAny (model prog w) A (pyIter (.ref l)) (fun it s₂ => LoopAtV prog w A h₀ env x body Q E it s₂) E s := by
  refine iter_listG items nn (fun i m nx => nx = news ∧ K i m) hh F N ⟨rfl, hj⟩ (fun i m nx h => h.1 ▸ hl) ?_ ?_
  · rintro I i v m₁ nx h tk it hi hv ⟨rfl, hK⟩ hlt hne F₁ N₁
    exact wpAny_mono (turn I i v m₁ h tk it hi hv hK hlt F₁ N₁) (ro_post hne) fun _ _ e => e
  · rintro m₁ nx h tk ⟨rfl, hK⟩ F₁ N₁
    exact done m₁ h tk hK F₁ N₁
theorem iter_tupRO {l : Addr} (items : Array Value) (nn : Nat) {m₀ : Str → Option Value} {news : List (Addr × Obj)} (K : Nat → (Str → Option Value) → Prop)
    (hh : A.handled = none) (F : Fr h₀ env.locals s.heap m₀) (N : News h₀ env.locals s.heap news) (hl : (l, ({ cls := .type "tuple", data := .seq items nn } : Obj)) ∈ news) (hj : K 0 m₀)
    (turn : ∀ (I : Addr) i v m₁ h tk it, i < items.size → items[i]? = some v → K i m₁ → (∀ p ∈ news, p.1 < I) → Fr h₀ env.locals h (fun y => if y = x then some v else m₁ y) → News h₀ env.locals h ((I, it) :: news) →
      wpAny (model prog w) A (execs body env) (ROPost h₀ env.locals I it news (K (i + 1)) { s with heap := h, toks := tk } Q) E { s with heap := h, toks := tk })
    (done : ∀ m₁ h tk, K items.size m₁ → Fr h₀ env.locals h m₁ → News h₀ env.locals h news → Q .next { s with heap := h, toks := tk }) :
    wpAny (model prog w) A (pyIter (.ref l)) (fun it s₂ => LoopAtV prog w A h₀ env x body Q E it s₂) E s := by
  refine iter_tupG items nn (fun i m nx => nx = news ∧ K i m) hh F N ⟨rfl, hj⟩ (fun i m nx h => h.1 ▸ hl) ?_ ?_
  · rintro I i v m₁ nx h tk it hi hv ⟨rfl, hK⟩ hlt hne F₁ N₁
    exact wpAny_mono (turn I i v m₁ h tk it hi hv hK hlt F₁ N₁) (ro_post hne) fun _ _ e => e
  · rintro m₁ nx h tk ⟨rfl, hK⟩ F₁ N₁
    exact done m₁ h tk hK F₁ N₁
theorem iter_rangeRO {r : Addr} {a₀ b₀ : Int} {t₀ u₀ v₀ : Tok} {n : Nat} {m₀ : Str → Option Value} {news : List (Addr × Obj)} (K : Nat → (Str → Option Value) → Prop)
    (hh : A.handled = none) (hr : IsRange s.heap r a₀ b₀ 1 t₀ u₀ v₀) (hsmall : Builtin.Range.small a₀ b₀ 1 = true) (hn : Builtin.Range.rangeSize a₀ b₀ 1 = (n : Int))
    (F : Fr h₀ env.locals s.heap m₀) (N : News h₀ env.locals s.heap news) (hj : K 0 m₀)
    (turn : ∀ (I : Addr) (i : Nat) t m₁ h tk it, i < n → K i m₁ → (∀ p ∈ news, p.1 < I) → Fr h₀ env.locals h (fun y => if y = x then some (.int (a₀ + (i : Int)) t) else m₁ y) → News h₀ env.locals h ((I, it) :: news) →
      wpAny (model prog w) A (execs body env) (ROPost h₀ env.locals I it news (K (i + 1)) { s with heap := h, toks := tk } Q) E { s with heap := h, toks := tk })
    (done : ∀ m₁ h tk, K n m₁ → Fr h₀ env.locals h m₁ → News h₀ env.locals h news → Q .next { s with heap := h, toks := tk }) :
    wpAny (model prog w) A (pyIter (.ref r)) (fun it s₂ => LoopAtV prog w A h₀ env x body Q E it s₂) E s := by
  refine iter_rangeG (fun i m nx => nx = news ∧ K i m) hh hr hsmall hn F N ⟨rfl, hj⟩ ?_ ?_
  · rintro I i t m₁ nx h tk it hi ⟨rfl, hK⟩ hlt hne F₁ N₁
    exact wpAny_mono (turn I i t m₁ h tk it hi hK hlt F₁ N₁) (ro_post hne) fun _ _ e => e
  · rintro m₁ nx h tk ⟨rfl, hK⟩ F₁ N₁
    exact done m₁ h tk hK F₁ N₁
end
end PG1

section PC1
abbrev PR : Program := PySem.Challenge.rw_ov0049_01.row.toRowW.prog

theorem kl_last_concat : ∀ (p : List Value) (y : Value), kl_last (p ++ [y]) = some (p, y)
  | [], _ => rfl
  | x :: r, y => by
    show (match kl_last (r ++ [y]) with | some (p, y) => some (x :: p, y) | none => some ([], x)) = _
    rw [kl_last_concat r y]


theorem ints_snoc {y : Value} : ∀ {p : List Value} {ns : List Int}, IntsAre (p ++ [y]) ns → ∃ v t ns', y = .int v t ∧ IntsAre p ns'
  | [], ns, h => by
    cases h with
    | cons n t h => exact ⟨_, _, [], rfl, .nil⟩
  | x :: r, ns, h => by
    cases h with
    | cons n t h =>
      obtain ⟨v, t', ns', e, h'⟩ := ints_snoc (p := r) h
      exact ⟨v, t', _, e, .cons n t h'⟩
theorem take_ok {w : World} {dp un : Nat} {gd : Option (List Code)} {cn : Str} {cs : Scope} {a : Addr} {ccd : Value} {cl : List (Str × Addr)} {outer : List Env} {A₀ : Around} {base h₀ : Heap} {L : Addr} {m : Str → Option Value} {s : Shared}
  {p : Program} {loose : List Str} {mean : ExcName → Option Value} {mg mb : Str → Option Value} {rest : List (Addr × Obj)} {c : Addr} {vs : List Value} {ns : List Int} {n : Nat} {k : Int} {tk : Tok} {Q E : Value → Shared → Prop}
  (B : Below A₀ base outer h₀) (F : Fr h₀ L s.heap m) (X : (hd.heap_39 w.params).In h₀) (N : News h₀ L s.heap ((c, listOf vs.toArray n) :: rest)) (T : Top p loose mean mg mb h₀) (hk : cs.kind = .function) (hd : dp + 1 < recursionLimit) (hu : un + 8 < cLine)
  (hoff : ∀ p ∈ rest, p.1 ≠ c) (hI : IntsAre vs ns) (hz : vs.length ≤ 200) (hm : 0 < k) (hm5 : k ≤ 5)
  (ret : ∀ r t vs' ns' n' h' tk', 0 ≤ r → r < k → IntsAre vs' ns' → vs'.length ≤ vs.length → Fr h₀ L h' m → News h₀ L h' ((c, listOf vs'.toArray n') :: rest) → Q (.int r t) {s with heap := h', toks := tk'}) :
  wpAny (model PR w) (ktrTop dp un gd cn cs L a ccd cl outer) (call (.ref 198) [.ref c, .int k tk]) Q E s := by
  have dummy : (fun (_ : OpenLaw) (_ : Params → Frag) => True) PySem.Challenge.rw_ov0049_01 Mine.hd.heap_39 := by
    k_fill
    trivial
  w_top off
  k_with_none
  rcases List.eq_nil_or_concat vs with rfl | ⟨p, y, hy⟩
  rotate_left
  · rw [List.concat_eq_append] at hy
    subst hy
    obtain ⟨v, t, ns', rfl, hI'⟩ := ints_snoc hI
    have hne : (p ++ [Value.int v t]).isEmpty = false := by simp
    have hl : p.length ≤ (p ++ [Value.int v t]).length := by simp
    refine wpAny_call ?_
    k_dflt ktr_enter
    k_steps
    dsimp only
    refine kl_pop (its := (p ++ [Value.int v t]).toArray) (by k_asm) (by k_asm) (kl_last_concat _ _) (by k_upd) (by rw [PySem.sizeLine_eq]; simp only [List.length_append, List.length_cons, List.length_nil] at *; omega) ?_
    kl_rest
    k_steps
    exact ret _ _ _ _ _ _ _ (Int.fmod_nonneg_of_pos _ hm) (Int.fmod_lt_of_pos _ hm) hI' hl (by k_asm) (by k_asm)
  · refine wpAny_call ?_
    k_dflt ktr_enter
    k_steps
    exact ret _ _ _ _ _ _ _ (by omega) (by omega) hI (Nat.le_refl _) (by k_asm) (by k_asm)
end PC1

section PD1
/-- a frame's word: nothing, a value that is no function, a function of that name -/
abbrev Phi := Str → Option (Option Str)

/-- what stands under a word of an environment's frame -/
inductive FIn (news : List (Addr × Obj)) : Value → Option Str → Prop
  | fn {x dx : Addr} {es : List DictEntry} {n : Nat} {t t' : Tok} {nm : Str} : (x, instObj 116 dx) ∈ news → (dx, dictOf es n) ∈ news → getL (Str.ofString "kind") es = some (some (.str (Str.ofString "builtin") t)) →
      getL (Str.ofString "name") es = some (some (.str nm t')) → FIn news (.ref x) (some nm)
  | val {x dx : Addr} {es : List DictEntry} {n : Nat} {t : Tok} : (x, instObj 95 dx) ∈ news → (dx, dictOf es n) ∈ news → getL (Str.ofString "kind") es = some (some (.str (Str.ofString "integer") t)) → FIn news (.ref x) none

def FrameIn (news : List (Addr × Obj)) (kvs : List (Str × Value)) (φ : Phi) : Prop := ∀ k, match φ k with
  | none => PySem.valueAt kvs k = none
  | some f => ∃ v, PySem.valueAt kvs k = some v ∧ FIn news v f

inductive EnvIn (w : World) (news : List (Addr × Obj)) : Value → List Phi → Prop
  | nil : EnvIn w news .none []
  | cons {e de fd : Addr} {es : List DictEntry} {n : Nat} {fo : Obj} {kvs : List (Str × Value)} {pv : Value} {φ : Phi} {ch : List Phi} : (e, instObj 138 de) ∈ news → (de, dictOf es n) ∈ news →
      getL (Str.ofString "frame") es = some (some (.ref fd)) → getL (Str.ofString "parent") es = some (some pv) → (fd, fo) ∈ news → (fd == sysModules) = false →
      fo.IsDictOf (PySem.strKind PR w) kvs → FrameIn news kvs φ → EnvIn w news pv ch → EnvIn w news (.ref e) (φ :: ch)

def findS : List Phi → Str → Option Str
  | [], _ => none
  | φ :: ch, k => match φ k with
    | some (some nm) => some nm
    | _ => findS ch k

/-- what find_method hands back -/
def RIn (news : List (Addr × Obj)) (r : Value) : Option Str → Prop
  | none => r = .none
  | some nm => FIn news r (some nm)

theorem FIn.mono {news news' : List (Addr × Obj)} (hs : ∀ p ∈ news, p ∈ news') {v : Value} {f : Option Str} (h : FIn news v f) : FIn news' v f := by
  cases h with
  | fn a b c d => exact .fn (hs _ a) (hs _ b) c d
  | val a b c => exact .val (hs _ a) (hs _ b) c
theorem RIn.mono {news news' : List (Addr × Obj)} (hs : ∀ p ∈ news, p ∈ news') {v : Value} {f : Option Str} (h : RIn news v f) : RIn news' v f := by
  cases f with
  | none => exact h
  | some nm => exact FIn.mono hs h
theorem FrameIn.mono {news news' : List (Addr × Obj)} (hs : ∀ p ∈ news, p ∈ news') {kvs : List (Str × Value)} {φ : Phi} (h : FrameIn news kvs φ) : FrameIn news' kvs φ := fun k => by
  have := h k
  cases hφ : φ k with
  | none => rw [hφ] at this; exact this
  | some f => rw [hφ] at this; obtain ⟨v, hv, hf⟩ := this; exact ⟨v, hv, hf.mono hs⟩
theorem EnvIn.mono {w : World} {news news' : List (Addr × Obj)} (hs : ∀ p ∈ news, p ∈ news') {v : Value} {ch : List Phi} (h : EnvIn w news v ch) : EnvIn w news' v ch := by
  induction h with
  | nil => exact .nil
  | cons a b c d e f g h _ ih => exact .cons (hs _ a) (hs _ b) c d (hs _ e) f g (h.mono hs) ih
/-- the law's own frame, a dict of names -/
def NamesIn (kvs : List (Str × Value)) (φ : Phi) : Prop := ∀ k, match φ k with
  | none => PySem.valueAt kvs k = none
  | some none => ∃ t, PySem.valueAt kvs k = some (.str (Str.ofString "value") t)
  | some (some nm) => (∃ t, PySem.valueAt kvs k = some (.str nm t)) ∧ nm ≠ Str.ofString "" ∧ nm ≠ Str.ofString "value"
def chainOf (φ0 φ1 φ2 φ3 : Phi) (k : Int) : List Phi := if k = 0 then [φ0] else if k = 1 then [φ1, φ0] else if k = 2 then [φ2, φ1, φ0] else if k = 3 then [φ3] else []
theorem any_no {nm : Str} (h1 : nm ≠ Str.ofString "") (h2 : nm ≠ Str.ofString "value") : ([Str.ofString "", Str.ofString "value"].any fun x => x == nm) = false := by
  simp only [List.any_cons, List.any_nil, Bool.or_false, Bool.or_eq_false_iff, beq_eq_false_iff_ne]
  exact ⟨fun e => h1 e.symm, fun e => h2 e.symm⟩
theorem isn_of {o : Option Value} (h : o = none) : o.isSome = false := by rw [h]; rfl
theorem iss_of {o : Option Value} {v : Value} (h : o = some v) : o.isSome = true := by rw [h]; rfl
theorem EnvIn.handed {w : World} {news : List (Addr × Obj)} {v : Value} {ch : List Phi} (h : EnvIn w news v ch) : handedIn v = true := by cases h <;> rfl
/-- the first frame chain that has it -/
def hitC (chs : List (List Phi)) (k : Str) : Option Str := chs.findSome? fun ch => findS ch k
/-- the first name that has it; '' is passed over -/
def hitH (chs : List (List Phi)) (heads : List Str) (c : Str) : Option Str := heads.findSome? fun h => if h = Str.ofString "" then none else hitC chs (h ++ Str.ofString "." ++ c)
def hitP (chs : List (List Phi)) (heads : List Str) : Nat → List Str → Option (Nat × Str)
  | _, [] => none
  | i, c :: r => match hitH chs heads c with
    | some nm => some (i, nm)
    | none => hitP chs heads (i + 1) r
def TOut (news : List (Addr × Obj)) (pl : Int) (r : Value) : Option (Nat × Str) → Prop
  | none => pl = -1 ∧ r = .none
  | some (i, nm) => pl = (i : Int) ∧ FIn news r (some nm)
abbrev pairOf (pl : Int) (t : Tok) (r : Value) : Obj := { cls := .type "tuple", data := .seq #[.int pl t, r] }
theorem hitH_cons (chs : List (List Phi)) (h : Str) (r : List Str) (c : Str) (hn : h ≠ Str.ofString "") : hitH chs (h :: r) c = match hitC chs (h ++ Str.ofString "." ++ c) with | some nm => some nm | none => hitH chs r c := by
  unfold hitH; rw [List.findSome?_cons, if_neg hn]
  cases hitC chs (h ++ Str.ofString "." ++ c) <;> rfl
theorem hitH_skip (chs : List (List Phi)) (h : Str) (r : List Str) (c : Str) (hn : h = Str.ofString "") : hitH chs (h :: r) c = hitH chs r c := by
  unfold hitH; rw [List.findSome?_cons, if_pos hn]
theorem strs_at : ∀ {vs : List Value} {ss : List Str}, StrsAre vs ss → ∀ i, i < vs.length → ∃ c t, vs[i]? = some (.str c t) ∧ ss[i]? = some c
  | _, _, .nil, i, h => absurd h (Nat.not_lt_zero _)
  | _, _, .cons c t _, 0, _ => ⟨c, t, rfl, rfl⟩
  | _, _, .cons c t r, i + 1, h => by
    obtain ⟨c', t', a, b⟩ := strs_at r i (Nat.lt_of_succ_lt_succ h)
    exact ⟨c', t', by simpa using a, by simpa using b⟩
theorem hitP_drop {chs : List (List Phi)} {heads : List Str} {i : Nat} {ks : List Str} {c : Str} (h : ks[i]? = some c) : hitP chs heads i (ks.drop i) = match hitH chs heads c with | some nm => some (i, nm) | none => hitP chs heads (i + 1) (ks.drop (i + 1)) := by
  obtain ⟨hlt, e⟩ := List.getElem?_eq_some_iff.mp h
  rw [List.drop_eq_getElem_cons hlt, e]
  rfl
theorem hitC_cons (ch : List Phi) (chs : List (List Phi)) (k : Str) : hitC (ch :: chs) k = match findS ch k with | some nm => some nm | none => hitC chs k := by
  unfold hitC; rw [List.findSome?_cons]
  cases findS ch k <;> rfl
end PD1

section PC2

local macro_rules | `(tactic| size_fits) => `(tactic| (simp only [List.size_toArray, List.length_append, List.length_cons, List.length_nil, PySem.sizeLine_eq]; omega))

theorem cells_ok {w : World} {dp un : Nat} {gd : Option (List Code)} {cn : Str} {cs : Scope} {a : Addr} {ccd : Value} {cl : List (Str × Addr)} {outer : List Env} {A₀ : Around} {base h₀ : Heap} {L : Addr} {m : Str → Option Value} {s : Shared}
  {p : Program} {loose : List Str} {mean : ExcName → Option Value} {mg mb : Str → Option Value} {news : List (Addr × Obj)} {l : Addr} {vs : List Value} {ns : List Int} {Q E : Value → Shared → Prop}
  (B : Below A₀ base outer h₀) (F : Fr h₀ L s.heap m) (X : (hd.heap_39 w.params).In h₀) (N : News h₀ L s.heap news) (T : Top p loose mean mg mb h₀) (hk : cs.kind = .function) (hd : dp + 1 < recursionLimit) (hu : un + 8 < cLine)
  (hl : h₀.IsList l vs.toArray) (hI : IntsAre vs ns) (hz : vs.length ≤ 63)
  (ret : ∀ c vs' ns' n' h' tk', (∀ p ∈ news, p.1 < c) → IntsAre vs' ns' → vs'.length ≤ 100 → Fr h₀ L h' m → News h₀ L h' ((c, listOf vs'.toArray n') :: news) → Q (.ref c) {s with heap := h', toks := tk'}) :
  wpAny (model PR w) (ktrTop dp un gd cn cs L a ccd cl outer) (call (.ref 191) [.ref l]) Q E s := by
  have dummy : (fun (_ : OpenLaw) (_ : Params → Frag) => True) PySem.Challenge.rw_ov0049_01 Mine.hd.heap_39 := by
    k_fill
    trivial
  w_top off
  k_with_none
  k_with "exec For Name Subscript cons nil" => (k_here; (rename Fr _ _ _ _ => lF'); (with_unfolding_all refine' For_invVF lF' ?k1 ?k2 ?_; (case k1 => exact rfl); (case k2 => exact rfl); k_whole))
  k_with "pyIter ref" => (refine Hold.of ?_)
  k_with "exec While BoolOp cons nil" => (refine Hold.of ?_)
  k_with "call builtin:len" => (k_here; (with_reducible show wpAny _ _ (call (Value.builtin "len") [Value.ref _]) _ _ _); k_dflt (refine' kst_len ?k1 ?k2 rfl ?k4 ?_; (case k1 => k_asm); (case k2 => k_memK); (case k4 => omega)))
  refine wpAny_call ?_
  k_dflt ktr_enter
  (rename Fr h₀ L _ m => FG)
  have hl' := hl.at fun o e => FG.keep l o e
  k_steps
  refine Hold.go ?_
  rename_i l' h2 l1 h1 D ws h' F1 N1 I1 hC hL l2
  refine iter_listG (List.toArray ws) 0 (fun i m' nx => ∃ us ms c, nx = (l', listOf (List.toArray us) c) :: (D, listOf (List.toArray ws) 0) :: news ∧ IntsAre us ms ∧ us.length ≤ 70 + i ∧ Knows m' [(Str.ofString "cells", .ref l')]) (by rfl) F1 (kst_newsOf N1 (by kst_inAny)) ⟨[], [], 0, rfl, .nil, Nat.zero_le _, ?kn⟩ ?hJ ?turn ?done
  case kn => kst_all
  case hJ => rintro i m' nx ⟨us, ms, c, rfl, _⟩; exact .tail _ (.head _)
  case turn =>
    rintro I i v m₁ nx h tk it hi hv ⟨us, ms, c, rfl, hI1, hl1, hk1⟩ hIn hne F2 N2
    replace F2 := fr_knowX hk1 F2
    have hlen : ws.length ≤ 25 := by have := I1.length; omega
    rw [List.size_toArray] at hi
    obtain ⟨n, t, rfl, _⟩ := I1.at i v (by simpa using hv)
    clear F1 N1
    k_lt hIn
    have hnl : ∀ p ∈ news, p.1 ≠ l' := fun p hp => Nat.ne_of_lt (l1 p hp)
    dsimp only at F2 N2 ⊢
    with_reducible show wpAny _ _ _ _ _ _
    k_fold
    k_steps
    all_goals (
      refine Hold.go ?_
      (rename Fr _ _ _ _ => F3; rename News _ _ _ _ => N3)
      simp only [List.push_toArray] at N3
      refine while_G (fun k m' nx => ∃ us ms c wd t, nx = (I, it) :: (l', listOf (List.toArray us) c) :: (D, listOf (List.toArray ws) 0) :: news ∧ IntsAre us ms ∧ us.length ≤ 71 + i ∧ 0 ≤ wd ∧ k = wd.toNat ∧ Knows m' [(Str.ofString "cells", .ref l'), (Str.ofString "wide", .int wd t)]) F3 N3 ?_ ?_
      · refine ⟨_, _, _, _, _, _, rfl, IntsAre.append hI1 (.cons _ _ .nil), ?_, ?_, rfl, knows_cons (by with_unfolding_all rfl) (knows_cons (by with_unfolding_all rfl) knows_nil)⟩
        · simp only [List.length_append, List.length_cons, List.length_nil]; omega
        · rw [Int.fdiv_eq_ediv_of_nonneg _ (by decide)]; refine Int.ediv_nonneg ?_ (by decide); (try split) <;> omega
      clear F3 N3
      rintro k m₂ nx₂ h₂ tk₂ ⟨us, ms, c, wd, t, rfl, hI2, hl2, hp2, rfl, hk2⟩ F4 N4
      replace F4 := fr_know hk2 F4
      dsimp only at F4 N4 ⊢
      with_reducible show wpAny _ _ _ _ _ _
      k_fold
      k_steps)
    all_goals first
      | ((rename Fr _ _ _ _ => F5; rename News _ _ _ _ => N5)
         simp only [List.push_toArray] at N5
         (with_reducible show WhileStep2 _ _ _ _ _ _ _ _)
         refine ⟨_, _, _, _, _, rfl, F5, N5, ?_, _, _, _, _, _, rfl, IntsAre.append hI2 (.cons _ _ .nil), ?_, ?_, rfl, knows_cons (by with_unfolding_all rfl) (knows_cons (by with_unfolding_all rfl) knows_nil)⟩
         · rw [Int.fdiv_eq_ediv_of_nonneg _ (by decide)]; omega
         · simp only [List.length_append, List.length_cons, List.length_nil]; omega
         · rw [Int.fdiv_eq_ediv_of_nonneg _ (by decide)]; omega)
      | ((rename Fr _ _ _ _ => F5; rename News _ _ _ _ => N5)
         (with_reducible show GPost _ _ _ _ _ _ _ _ _)
         exact GEnd.intro ((l', listOf (List.toArray us) c) :: (D, listOf (List.toArray ws) 0) :: news) F5 N5 (.head _) (fun p hp => .tail _ hp) (fun p hp => Nat.ne_of_lt (kst_ltOf (d := I) (l := (l', listOf (List.toArray us) c) :: (D, listOf (List.toArray ws) 0) :: news) hIn p hp)) ⟨us, ms, c, rfl, hI2, by omega, knows_cons (by with_unfolding_all rfl) knows_nil⟩)
  case done =>
    rintro m₁ nx h tk ⟨us, ms, c, rfl, hI1, hl1, hk1⟩ F2 N2
    replace F2 := fr_know hk1 F2
    have hlen : ws.length ≤ 25 := by have := I1.length; omega
    have hnl : ∀ p ∈ news, p.1 ≠ l' := fun p hp => Nat.ne_of_lt (l1 p hp)
    rw [List.size_toArray] at hl1
    clear F1 N1
    dsimp only at F2 N2 ⊢
    with_reducible show wpAny _ _ _ _ _ _
    k_steps
    dsimp only
    refine kl_reverse (its := (List.toArray us)) (by k_asm) (by k_asm) rfl (by k_upd) (by rw [PySem.sizeLine_eq]; show us.length ≤ _; omega) ?_
    kl_rest
    k_steps
    exact ret _ _ _ _ _ _ l1 hI1.reverse (by rw [List.length_reverse]; omega) (by k_asm) (by refine kst_newsOf (by k_asm) (by kst_inAny))
end PC2

section PC3

theorem from_ok {w : World} {dp un : Nat} {gd : Option (List Code)} {cn : Str} {cs : Scope} {a : Addr} {ccd : Value} {cl : List (Str × Addr)} {outer : List Env} {A₀ : Around} {base h₀ : Heap} {L : Addr} {m : Str → Option Value} {s : Shared}
  {p : Program} {loose : List Str} {mean : ExcName → Option Value} {mg mb : Str → Option Value} {news : List (Addr × Obj)} {ip ev : Value} {key : Str} {kt : Tok} {ch : List Phi} {Q E : Value → Shared → Prop}
  (B : Below A₀ base outer h₀) (F : Fr h₀ L s.heap m) (X : (hd.heap_39 w.params).In h₀) (N : News h₀ L s.heap news) (T : Top p loose mean mg mb h₀) (hk : cs.kind = .function) (hd : dp + 2 < recursionLimit) (hu : un + 16 < cLine)
  (hE : EnvIn w news ev ch)
  (ret : ∀ r news' h' tk', RIn news r (findS ch key) → (∀ p ∈ news, p ∈ news') → Fr h₀ L h' m → News h₀ L h' news' → Q r {s with heap := h', toks := tk'}) :
  wpAny (model PR w) (ktrTop dp un gd cn cs L a ccd cl outer) (call (.ref 163) [ip, .str key kt, ev]) Q E s := by
  have dummy : (fun (_ : OpenLaw) (_ : Params → Frag) => True) PySem.Challenge.rw_ov0049_01 Mine.hd.heap_39 := by
    k_fill
    trivial
  w_top off
  k_with_none
  k_with "exec While Compare cons nil" => (refine Hold.of ?_)
  k_with "getAttr ref" => (k_here; k_dflt (refine' get_own ?k1 ?k2 (InstAt.of_news ?kN ?ka ?kb) ?k4 ?k5 ?k6 ?k7 ?k8 ?k9 ?_; (case k1 => k_asm); (case k2 => k_asm); (case kN => k_asm); (case ka => k_mem); (case kb => k_mem); (case k4 => k_is); (case k5 => k_is); (case k6 => k_is); (case k7 => k_is); (case k8 => assumption); (case k9 => first | rfl | exact EnvIn.handed (by assumption))))
  k_with "compareOp In str ref" => (k_here; k_dflt (first
  | refine kda_in (knd := PySem.strKind _ _) (by k_asm) (by k_mem) (by k_asm) (by k_asm) (strKind_is _ _ _ _) false (isn_of (by assumption)) ?_
  | refine kda_in (knd := PySem.strKind _ _) (by k_asm) (by k_mem) (by k_asm) (by k_asm) (strKind_is _ _ _ _) true (iss_of (by assumption)) ?_))
  k_with "subscriptTail" => (k_here; (with_reducible show wpAny _ _ (subscriptTail _ _ (Value.ref _) (Value.str _ _)) _ _ _); k_dflt (refine' kda_item (knd := PySem.strKind _ _) ?k1 ?k2 ?k3 (strKind_is _ _ _ _) ?k5 ?_; (case k1 => k_asm); (case k2 => k_mem); (case k3 => k_asm); (case k5 => assumption)))
  refine wpAny_call ?_
  k_dflt ktr_enter
  k_steps
  refine Hold.go ?_
  (rename Fr _ _ _ _ => F1; rename News _ _ _ _ => N1)
  refine while_G (fun k m' nx => ∃ v ch', nx = news ∧ EnvIn w news v ch' ∧ k = ch'.length ∧ findS ch' key = findS ch key ∧ Knows m' [(Str.ofString "name", .str key kt), (Str.ofString "env", v), (Str.ofString "interp", ip)]) F1 N1 ?_ ?_
  · exact ⟨_, _, _, rfl, hE, rfl, rfl, knows_cons (by with_unfolding_all rfl) (knows_cons (by with_unfolding_all rfl) (knows_cons (by with_unfolding_all rfl) knows_nil))⟩
  clear F1 N1
  rintro k m₂ nx₂ h₂ tk₂ ⟨v, ch', rfl, hE', rfl, hf, hk2⟩ F4 N4
  replace F4 := fr_know hk2 F4
  cases hE' with
  | nil =>
    dsimp only [kstB] at F4 N4 ⊢
    with_reducible show wpAny _ _ _ _ _ _
    k_fold
    k_steps
    refine ret _ _ _ _ ?_ (fun _ hp => hp) (by k_asm) (by k_asm)
    rw [← hf]; rfl
  | cons a1 a2 a3 a4 a5 a6 a7 a8 a9 =>
    rename_i φ ch'
    have a8' := a8 key
    cases hφ : φ key with
    | none =>
      rw [hφ] at a8'
      dsimp only [kstB] at F4 N4 a8' ⊢
      with_reducible show wpAny _ _ _ _ _ _
      k_fold
      k_steps
      (rename Fr _ _ _ _ => F5; rename News _ _ _ _ => N5)
      refine ⟨_, _, _, _, _, rfl, F5, N5, ?_, _, _, rfl, a9, rfl, ?_, knows_cons (by with_unfolding_all rfl) (knows_cons (by with_unfolding_all rfl) (knows_cons (by with_unfolding_all rfl) knows_nil))⟩
      · simp
      · rw [← hf]; show _ = (match φ key with | some (some nm) => some nm | _ => findS ch' key); rw [hφ]
    | some f =>
      rw [hφ] at a8'
      obtain ⟨v, hv, hfi⟩ := a8'
      cases hfi with
      | fn b1 b2 b3 b4 =>
        dsimp only [kstB] at F4 N4 ⊢
        with_reducible show wpAny _ _ _ _ _ _
        k_fold
        k_steps
        dsimp only [WhileStep2]
        k_steps
        refine ret _ _ _ _ ?_ (fun _ hp => .tail _ hp) (by k_asm) (by k_asm)
        rw [← hf]; show RIn _ _ (match φ key with | some (some nm) => some nm | _ => findS ch' key); rw [hφ]
        exact .fn b1 b2 b3 b4
      | val b1 b2 b3 =>
        dsimp only [kstB] at F4 N4 ⊢
        with_reducible show wpAny _ _ _ _ _ _
        k_fold
        k_steps
        (rename Fr _ _ _ _ => F5; rename News _ _ _ _ => N5)
        refine ⟨_, _, _, _, _, rfl, F5, kst_newsOf N5 (fun _ hp => .tail _ hp), ?_, _, _, rfl, a9, rfl, ?_, knows_cons (by with_unfolding_all rfl) (knows_cons (by with_unfolding_all rfl) (knows_cons (by with_unfolding_all rfl) knows_nil))⟩
        · simp
        · rw [← hf]; show _ = (match φ key with | some (some nm) => some nm | _ => findS ch' key); rw [hφ]
end PC3

section PC4

theorem find_ok {w : World} {dp un : Nat} {gd : Option (List Code)} {cn : Str} {cs : Scope} {a : Addr} {ccd : Value} {cl : List (Str × Addr)} {outer : List Env} {A₀ : Around} {base h₀ : Heap} {L : Addr} {m : Str → Option Value} {s : Shared}
  {p : Program} {loose : List Str} {mean : ExcName → Option Value} {mg mb : Str → Option Value} {news : List (Addr × Obj)} {ip ev : Value} {g c : Str} {gt ct : Tok} {ch : List Phi} {Q E : Value → Shared → Prop}
  (B : Below A₀ base outer h₀) (F : Fr h₀ L s.heap m) (X : (hd.heap_39 w.params).In h₀) (N : News h₀ L s.heap news) (T : Top p loose mean mg mb h₀) (hk : cs.kind = .function) (hd : dp + 3 < recursionLimit) (hu : un + 24 < cLine)
  (hE : EnvIn w news ev ch) (hg : g.length ≤ 100) (hc : c.length ≤ 100)
  (ret : ∀ r news' h' tk', RIn news r (findS ch (g ++ Str.ofString "." ++ c)) → (∀ p ∈ news, p ∈ news') → Fr h₀ L h' m → News h₀ L h' news' → Q r {s with heap := h', toks := tk'}) :
  wpAny (model PR w) (ktrTop dp un gd cn cs L a ccd cl outer) (call (.ref 170) [ip, .str g gt, .str c ct, ev]) Q E s := by
  have dummy : (fun (_ : OpenLaw) (_ : Params → Frag) => True) PySem.Challenge.rw_ov0049_01 Mine.hd.heap_39 := by
    k_fill
    trivial
  w_top off
  k_with_none
  k_with "call ref" => (refine Hold.of ?_)
  refine wpAny_call ?_
  k_dflt ktr_enter
  k_steps
  refine Hold.go ?_
  refine from_ok (by k_asm) (by k_asm) (by k_asm) (by k_asm) (by k_asm) (by rfl) (by ktr_room) (by ktr_units) hE (fun r news' h' tk' hr hs F' N' => ?_)
  k_steps
  exact ret _ _ _ _ hr hs (by k_asm) (by k_asm)
end PC4

section PC5

theorem plain_ok {w : World} {dp un : Nat} {gd : Option (List Code)} {cn : Str} {cs : Scope} {a : Addr} {ccd : Value} {cl : List (Str × Addr)} {outer : List Env} {A₀ : Around} {base h₀ : Heap} {L : Addr} {m : Str → Option Value} {s : Shared}
  {p : Program} {loose : List Str} {mean : ExcName → Option Value} {mg mb : Str → Option Value} {news : List (Addr × Obj)} {key : Str} {kt at' : Tok} {Q E : Value → Shared → Prop}
  {fl ol f0 f1 f2 f3 : Addr} {nf no : Nat} {o0 o1 o2 o3 : Obj} {v0 v1 v2 v3 : List (Str × Value)} {φ0 φ1 φ2 φ3 : Phi} {u0 u1 u2 u3 : Tok} {k : Int}
  (B : Below A₀ base outer h₀) (F : Fr h₀ L s.heap m) (X : (hd.heap_39 w.params).In h₀) (N : News h₀ L s.heap news) (T : Top p loose mean mg mb h₀) (hk : cs.kind = .function) (hd : dp + 2 < recursionLimit) (hu : un + 16 < cLine)
  (hfl : (fl, listOf #[.ref f0, .ref f1, .ref f2, .ref f3] nf) ∈ news) (hol : (ol, listOf #[.int (-1) u0, .int 0 u1, .int 1 u2, .int (-1) u3] no) ∈ news)
  (h0 : (f0, o0) ∈ news) (h1 : (f1, o1) ∈ news) (h2 : (f2, o2) ∈ news) (h3 : (f3, o3) ∈ news)
  (i0 : o0.IsDictOf (PySem.strKind PR w) v0) (i1 : o1.IsDictOf (PySem.strKind PR w) v1) (i2 : o2.IsDictOf (PySem.strKind PR w) v2) (i3 : o3.IsDictOf (PySem.strKind PR w) v3)
  (s0 : (f0 == sysModules) = false) (s1 : (f1 == sysModules) = false) (s2 : (f2 == sysModules) = false) (s3 : (f3 == sysModules) = false)
  (n0 : NamesIn v0 φ0) (n1 : NamesIn v1 φ1) (n2 : NamesIn v2 φ2) (n3 : NamesIn v3 φ3) (hk0 : 0 ≤ k) (hk3 : k ≤ 3)
  (ret : ∀ t news' h' tk', (∀ p ∈ news, p ∈ news') → Fr h₀ L h' m → News h₀ L h' news' → Q (.str ((findS (chainOf φ0 φ1 φ2 φ3 k) key).getD (Str.ofString "")) t) {s with heap := h', toks := tk'}) :
  wpAny (model PR w) (ktrTop dp un gd cn cs L a ccd cl outer) (call (.ref 212) [.ref fl, .ref ol, .int k at', .str key kt]) Q E s := by
  have dummy : (fun (_ : OpenLaw) (_ : Params → Frag) => True) PySem.Challenge.rw_ov0049_01 Mine.hd.heap_39 := by
    k_fill
    trivial
  w_top off
  k_with_none
  k_with "exec While Compare cons nil" => (refine Hold.of ?_)
  k_with "getMethod ref" => (k_here; (with_reducible show wpAny _ _ (getMethod (Value.ref _) (Str.ofString "get") _) _ _ _); k_dflt (refine kdg_method (knd := PySem.strKind _ _) (by k_asm) (by k_mem) (by k_asm) ?_))
  k_with "call builtin:dict.get" => (k_here; k_dflt (first
  | refine kdg_get2 (knd := PySem.strKind _ _) (by k_asm) (by k_mem) (by k_asm) (by k_asm) (strKind_is _ _ _ _) none (by assumption) ?_
  | refine kdg_get2 (knd := PySem.strKind _ _) (by k_asm) (by k_mem) (by k_asm) (by k_asm) (strKind_is _ _ _ _) (some _) (by assumption) ?_); (try dsimp only [Option.getD]))
  k_with "subscriptTail" => (k_here; (with_reducible show wpAny _ _ (subscriptTail _ _ (Value.ref _) (Value.str _ _)) _ _ _); k_dflt (refine' kda_item (knd := PySem.strKind _ _) ?k1 ?k2 ?k3 (strKind_is _ _ _ _) ?k5 ?_; (case k1 => k_asm); (case k2 => k_mem); (case k3 => k_asm); (case k5 => assumption)))
  k_with "subscriptTail" => (k_here; (with_reducible show wpAny _ _ (subscriptTail _ _ (Value.ref _) (Value.int _ _)) _ _ _); k_dflt (refine' item_led ?k1 ?k2 ?k3 ?k4 ?k5 ?_ ?k6; (case k1 => k_asm); (case k2 => k_mem); (case k3 => decide); (case k4 => decide); (case k5 => rfl); (case k6 => with_unfolding_all rfl)))
  refine wpAny_call ?_
  k_dflt ktr_enter
  k_steps
  refine Hold.go ?_
  (rename Fr _ _ _ _ => F1; rename News _ _ _ _ => N1)
  refine while_G (fun n m' nx => ∃ j t, (∀ p ∈ news, p ∈ nx) ∧ -1 ≤ j ∧ j ≤ 3 ∧ n = (chainOf φ0 φ1 φ2 φ3 j).length ∧ findS (chainOf φ0 φ1 φ2 φ3 j) key = findS (chainOf φ0 φ1 φ2 φ3 k) key ∧ Knows m' [(Str.ofString "frames", .ref fl), (Str.ofString "outer", .ref ol), (Str.ofString "at", .int j t), (Str.ofString "word", .str key kt)]) F1 N1 ?_ ?_
  · exact ⟨_, _, _, (fun _ hp => hp), by omega, hk3, rfl, rfl, knows_cons (by with_unfolding_all rfl) (knows_cons (by with_unfolding_all rfl) (knows_cons (by with_unfolding_all rfl) (knows_cons (by with_unfolding_all rfl) knows_nil)))⟩
  clear F1 N1
  rintro n m₂ nx₂ h₂ tk₂ ⟨j, t, hs, hj0, hj3, rfl, hf, hk2⟩ F4 N4
  replace F4 := fr_know hk2 F4
  dsimp only [kstB] at F4 N4 ⊢
  replace hfl := hs _ hfl
  replace hol := hs _ hol
  replace h0 := hs _ h0
  replace h1 := hs _ h1
  replace h2 := hs _ h2
  replace h3 := hs _ h3
  have hj : j = -1 ∨ j = 0 ∨ j = 1 ∨ j = 2 ∨ j = 3 := by omega
  rcases hj with rfl | rfl | rfl | rfl | rfl
  · with_reducible show wpAny _ _ _ _ _ _
    k_fold
    k_steps
    have e : findS (chainOf φ0 φ1 φ2 φ3 k) key = none := by rw [← hf]; rfl
    rw [e] at ret
    exact ret _ _ _ _ hs (by k_asm) (by k_asm)
  · have q := n0 key
    cases hφ : φ0 key with
    | none =>
      rw [hφ] at q
      dsimp only at q
      with_reducible show wpAny _ _ _ _ _ _
      k_fold
      k_steps
      (rename Fr _ _ _ _ => F5; rename News _ _ _ _ => N5)
      refine ⟨_, _, _, _, _, rfl, F5, N5, ?_, (-1 : Int), _, (fun _ hp => .tail _ (hs _ hp)), by omega, by omega, rfl, ?_, knows_cons (by with_unfolding_all rfl) (knows_cons (by with_unfolding_all rfl) (knows_cons (by with_unfolding_all rfl) (knows_cons (by with_unfolding_all rfl) knows_nil)))⟩
      · simp [chainOf]
      · rw [← hf]; simp [chainOf, findS, hφ]
    | some f =>
      cases f with
      | none =>
        rw [hφ] at q
        obtain ⟨t1, q⟩ := q
        with_reducible show wpAny _ _ _ _ _ _
        k_fold
        k_steps
        (rename Fr _ _ _ _ => F5; rename News _ _ _ _ => N5)
        refine ⟨_, _, _, _, _, rfl, F5, N5, ?_, (-1 : Int), _, (fun _ hp => .tail _ (hs _ hp)), by omega, by omega, rfl, ?_, knows_cons (by with_unfolding_all rfl) (knows_cons (by with_unfolding_all rfl) (knows_cons (by with_unfolding_all rfl) (knows_cons (by with_unfolding_all rfl) knows_nil)))⟩
        · simp [chainOf]
        · rw [← hf]; simp [chainOf, findS, hφ]
      | some nm =>
        rw [hφ] at q
        obtain ⟨⟨t1, q⟩, ne1, ne2⟩ := q
        have hany := any_no ne1 ne2
        with_reducible show wpAny _ _ _ _ _ _
        k_fold
        k_steps
        all_goals first
          | (exfalso; rename (List.any _ _ = true) => hb; rw [hany] at hb; exact Bool.false_ne_true hb)
          | (dsimp only [WhileStep2]
             k_steps
             have e : findS (chainOf φ0 φ1 φ2 φ3 k) key = some nm := by rw [← hf]; simp [chainOf, findS, hφ]
             rw [e] at ret
             exact ret _ _ _ _ (fun _ hp => .tail _ (hs _ hp)) (by k_asm) (by k_asm))
  · have q := n1 key
    cases hφ : φ1 key with
    | none =>
      rw [hφ] at q
      dsimp only at q
      with_reducible show wpAny _ _ _ _ _ _
      k_fold
      k_steps
      (rename Fr _ _ _ _ => F5; rename News _ _ _ _ => N5)
      refine ⟨_, _, _, _, _, rfl, F5, N5, ?_, (0 : Int), _, (fun _ hp => .tail _ (hs _ hp)), by omega, by omega, rfl, ?_, knows_cons (by with_unfolding_all rfl) (knows_cons (by with_unfolding_all rfl) (knows_cons (by with_unfolding_all rfl) (knows_cons (by with_unfolding_all rfl) knows_nil)))⟩
      · simp [chainOf]
      · rw [← hf]; simp [chainOf, findS, hφ]
    | some f =>
      cases f with
      | none =>
        rw [hφ] at q
        obtain ⟨t1, q⟩ := q
        with_reducible show wpAny _ _ _ _ _ _
        k_fold
        k_steps
        (rename Fr _ _ _ _ => F5; rename News _ _ _ _ => N5)
        refine ⟨_, _, _, _, _, rfl, F5, N5, ?_, (0 : Int), _, (fun _ hp => .tail _ (hs _ hp)), by omega, by omega, rfl, ?_, knows_cons (by with_unfolding_all rfl) (knows_cons (by with_unfolding_all rfl) (knows_cons (by with_unfolding_all rfl) (knows_cons (by with_unfolding_all rfl) knows_nil)))⟩
        · simp [chainOf]
        · rw [← hf]; simp [chainOf, findS, hφ]
      | some nm =>
        rw [hφ] at q
        obtain ⟨⟨t1, q⟩, ne1, ne2⟩ := q
        have hany := any_no ne1 ne2
        with_reducible show wpAny _ _ _ _ _ _
        k_fold
        k_steps
        all_goals first
          | (exfalso; rename (List.any _ _ = true) => hb; rw [hany] at hb; exact Bool.false_ne_true hb)
          | (dsimp only [WhileStep2]
             k_steps
             have e : findS (chainOf φ0 φ1 φ2 φ3 k) key = some nm := by rw [← hf]; simp [chainOf, findS, hφ]
             rw [e] at ret
             exact ret _ _ _ _ (fun _ hp => .tail _ (hs _ hp)) (by k_asm) (by k_asm))
  · have q := n2 key
    cases hφ : φ2 key with
    | none =>
      rw [hφ] at q
      dsimp only at q
      with_reducible show wpAny _ _ _ _ _ _
      k_fold
      k_steps
      (rename Fr _ _ _ _ => F5; rename News _ _ _ _ => N5)
      refine ⟨_, _, _, _, _, rfl, F5, N5, ?_, (1 : Int), _, (fun _ hp => .tail _ (hs _ hp)), by omega, by omega, rfl, ?_, knows_cons (by with_unfolding_all rfl) (knows_cons (by with_unfolding_all rfl) (knows_cons (by with_unfolding_all rfl) (knows_cons (by with_unfolding_all rfl) knows_nil)))⟩
      · simp [chainOf]
      · rw [← hf]; simp [chainOf, findS, hφ]
    | some f =>
      cases f with
      | none =>
        rw [hφ] at q
        obtain ⟨t1, q⟩ := q
        with_reducible show wpAny _ _ _ _ _ _
        k_fold
        k_steps
        (rename Fr _ _ _ _ => F5; rename News _ _ _ _ => N5)
        refine ⟨_, _, _, _, _, rfl, F5, N5, ?_, (1 : Int), _, (fun _ hp => .tail _ (hs _ hp)), by omega, by omega, rfl, ?_, knows_cons (by with_unfolding_all rfl) (knows_cons (by with_unfolding_all rfl) (knows_cons (by with_unfolding_all rfl) (knows_cons (by with_unfolding_all rfl) knows_nil)))⟩
        · simp [chainOf]
        · rw [← hf]; simp [chainOf, findS, hφ]
      | some nm =>
        rw [hφ] at q
        obtain ⟨⟨t1, q⟩, ne1, ne2⟩ := q
        have hany := any_no ne1 ne2
        with_reducible show wpAny _ _ _ _ _ _
        k_fold
        k_steps
        all_goals first
          | (exfalso; rename (List.any _ _ = true) => hb; rw [hany] at hb; exact Bool.false_ne_true hb)
          | (dsimp only [WhileStep2]
             k_steps
             have e : findS (chainOf φ0 φ1 φ2 φ3 k) key = some nm := by rw [← hf]; simp [chainOf, findS, hφ]
             rw [e] at ret
             exact ret _ _ _ _ (fun _ hp => .tail _ (hs _ hp)) (by k_asm) (by k_asm))
  · have q := n3 key
    cases hφ : φ3 key with
    | none =>
      rw [hφ] at q
      dsimp only at q
      with_reducible show wpAny _ _ _ _ _ _
      k_fold
      k_steps
      (rename Fr _ _ _ _ => F5; rename News _ _ _ _ => N5)
      refine ⟨_, _, _, _, _, rfl, F5, N5, ?_, (-1 : Int), _, (fun _ hp => .tail _ (hs _ hp)), by omega, by omega, rfl, ?_, knows_cons (by with_unfolding_all rfl) (knows_cons (by with_unfolding_all rfl) (knows_cons (by with_unfolding_all rfl) (knows_cons (by with_unfolding_all rfl) knows_nil)))⟩
      · simp [chainOf]
      · rw [← hf]; simp [chainOf, findS, hφ]
    | some f =>
      cases f with
      | none =>
        rw [hφ] at q
        obtain ⟨t1, q⟩ := q
        with_reducible show wpAny _ _ _ _ _ _
        k_fold
        k_steps
        (rename Fr _ _ _ _ => F5; rename News _ _ _ _ => N5)
        refine ⟨_, _, _, _, _, rfl, F5, N5, ?_, (-1 : Int), _, (fun _ hp => .tail _ (hs _ hp)), by omega, by omega, rfl, ?_, knows_cons (by with_unfolding_all rfl) (knows_cons (by with_unfolding_all rfl) (knows_cons (by with_unfolding_all rfl) (knows_cons (by with_unfolding_all rfl) knows_nil)))⟩
        · simp [chainOf]
        · rw [← hf]; simp [chainOf, findS, hφ]
      | some nm =>
        rw [hφ] at q
        obtain ⟨⟨t1, q⟩, ne1, ne2⟩ := q
        have hany := any_no ne1 ne2
        with_reducible show wpAny _ _ _ _ _ _
        k_fold
        k_steps
        all_goals first
          | (exfalso; rename (List.any _ _ = true) => hb; rw [hany] at hb; exact Bool.false_ne_true hb)
          | (dsimp only [WhileStep2]
             k_steps
             have e : findS (chainOf φ0 φ1 φ2 φ3 k) key = some nm := by rw [← hf]; simp [chainOf, findS, hφ]
             rw [e] at ret
             exact ret _ _ _ _ (fun _ hp => .tail _ (hs _ hp)) (by k_asm) (by k_asm))
end PC5

section PC6

theorem name_ok {w : World} {dp un : Nat} {gd : Option (List Code)} {cn : Str} {cs : Scope} {a : Addr} {ccd : Value} {cl : List (Str × Addr)} {outer : List Env} {A₀ : Around} {base h₀ : Heap} {L : Addr} {m : Str → Option Value} {s : Shared}
  {p : Program} {loose : List Str} {mean : ExcName → Option Value} {mg mb : Str → Option Value} {news : List (Addr × Obj)} {r : Value} {f : Option Str} {Q E : Value → Shared → Prop}
  (B : Below A₀ base outer h₀) (F : Fr h₀ L s.heap m) (X : (hd.heap_39 w.params).In h₀) (N : News h₀ L s.heap news) (T : Top p loose mean mg mb h₀) (hk : cs.kind = .function) (hd : dp + 2 < recursionLimit) (hu : un + 16 < cLine)
  (hr : RIn news r f)
  (ret : ∀ t h' tk', Fr h₀ L h' m → News h₀ L h' news → Q (.str (f.getD (Str.ofString "")) t) {s with heap := h', toks := tk'}) :
  wpAny (model PR w) (ktrTop dp un gd cn cs L a ccd cl outer) (call (.ref 219) [r]) Q E s := by
  have dummy : (fun (_ : OpenLaw) (_ : Params → Frag) => True) PySem.Challenge.rw_ov0049_01 Mine.hd.heap_39 := by
    k_fill
    trivial
  w_top off
  k_with_none
  k_with "getAttr ref" => (k_here; k_dflt (refine' get_own ?k1 ?k2 (InstAt.of_news ?kN ?ka ?kb) ?k4 ?k5 ?k6 ?k7 ?k8 ?k9 ?_; (case k1 => k_asm); (case k2 => k_asm); (case kN => k_asm); (case ka => k_mem); (case kb => k_mem); (case k4 => k_is); (case k5 => k_is); (case k6 => k_is); (case k7 => k_is); (case k8 => assumption); (case k9 => first | rfl | exact EnvIn.handed (by assumption))))
  cases f with
  | none =>
    have hr' : r = .none := hr
    subst hr'
    refine wpAny_call ?_
    k_dflt ktr_enter
    k_steps
    exact ret _ _ _ (by k_asm) (by k_asm)
  | some nm =>
    have hr' : FIn news r (some nm) := hr
    cases hr' with
    | fn b1 b2 b3 b4 =>
      refine wpAny_call ?_
      k_dflt ktr_enter
      k_steps
      exact ret _ _ _ (by k_asm) (by k_asm)
end PC6

section PC7

theorem first_ok {w : World} {dp un : Nat} {gd : Option (List Code)} {cn : Str} {cs : Scope} {a : Addr} {ccd : Value} {cl : List (Str × Addr)} {outer : List Env} {A₀ : Around} {base h₀ : Heap} {L : Addr} {m : Str → Option Value} {s : Shared}
  {p : Program} {loose : List Str} {mean : ExcName → Option Value} {mg mb : Str → Option Value} {news : List (Addr × Obj)} {ip e1 e2 : Value} {g gs : Str} {gt gst : Tok} {ch1 ch2 : List Phi} {el kl : Addr} {en kn : Nat} {cvs : List Value} {ks : List Str} {Q E : Value → Shared → Prop}
  (B : Below A₀ base outer h₀) (F : Fr h₀ L s.heap m) (X : (hd.heap_39 w.params).In h₀) (N : News h₀ L s.heap news) (T : Top p loose mean mg mb h₀) (hk : cs.kind = .function) (hd : dp + 5 < recursionLimit) (hu : un + 40 < cLine)
  (hel : (el, listOf #[e1, e2] en) ∈ news) (hE1 : EnvIn w news e1 ch1) (hE2 : EnvIn w news e2 ch2) (hg : g.length ≤ 50) (hgs : gs.length ≤ 50) (hgn : g ≠ Str.ofString "")
  (hkl : (kl, listOf cvs.toArray kn) ∈ news) (hks : StrsAre cvs ks) (hk4 : cvs.length ≤ 4) (hkc : ∀ c ∈ ks, c.length ≤ 50)
  (ret : ∀ t pl ptk r news' h' tk', (t, pairOf pl ptk r) ∈ news' → TOut news' pl r (hitP [ch1, ch2] [g, gs] 0 ks) → (∀ p ∈ news, p ∈ news') → Fr h₀ L h' m → News h₀ L h' news' → Q (.ref t) {s with heap := h', toks := tk'}) :
  wpAny (model PR w) (ktrTop dp un gd cn cs L a ccd cl outer) (call (.ref 177) [ip, .str g gt, .str gs gst, .ref kl, .ref el]) Q E s := by
  have dummy : (fun (_ : OpenLaw) (_ : Params → Frag) => True) PySem.Challenge.rw_ov0049_01 Mine.hd.heap_39 := by
    k_fill
    trivial
  w_top off
  k_with_none
  k_with "call ref" => (refine Hold.of ?_)
  k_with "exec For Name Name cons nil" => (k_here; (rename Fr _ _ _ _ => lF'); (with_unfolding_all refine' For_invVF lF' ?k1 ?k2 ?_; (case k1 => exact rfl); (case k2 => exact rfl); k_whole))
  k_with "exec For Name Call cons nil" => (k_here; (rename Fr _ _ _ _ => lF'); (with_unfolding_all refine' For_invVF lF' ?k1 ?k2 ?_; (case k1 => exact rfl); (case k2 => exact rfl); k_whole))
  k_with "exec For Name Tuple cons nil" => (k_here; (rename Fr _ _ _ _ => lF'); (with_unfolding_all refine' For_invVF lF' ?k1 ?k2 ?_; (case k1 => exact rfl); (case k2 => exact rfl); k_whole))
  k_with "pyIter ref" => (refine Hold.of ?_)
  k_with "GPost" => (dsimp only [GPost])
  k_with "call builtin:len" => (k_here; (with_reducible show wpAny _ _ (call (Value.builtin "len") [Value.ref _]) _ _ _); k_dflt (refine' kst_len ?k1 ?k2 rfl ?k4 ?_; (case k1 => k_asm); (case k2 => k_mem); (case k4 => omega)))
  k_with "subscriptTail" => (k_here; (with_reducible show wpAny _ _ (subscriptTail _ _ (Value.ref _) (Value.int _ _)) _ _ _); k_dflt (refine' item_led ?k1 ?k2 ?k3 ?k4 ?k5 ?_ ?k6; (case k1 => k_asm); (case k2 => k_mem); (case k5 => assumption); (case k3 => omega); (case k4 => omega); (case k6 => with_unfolding_all rfl)))
  k_with "ROPost" => (dsimp only [ROPost])
  refine wpAny_call ?_
  k_dflt ktr_enter
  k_steps
  refine Hold.go ?_
  (rename IsRange _ _ _ _ _ _ _ _ => rgX; rename Fr _ _ _ _ => F1; rename News _ _ _ _ => N1)
  have hlen := hks.length
  refine iter_rangeRO (n := cvs.length) (fun i m' => hitP [ch1, ch2] [g, gs] i (ks.drop i) = hitP [ch1, ch2] [g, gs] 0 ks ∧ Knows m' [(Str.ofString "interp", ip), (Str.ofString "generic", .str g gt), (Str.ofString "group", .str gs gst), (Str.ofString "classes", .ref kl), (Str.ofString "envs", .ref el)]) (by rfl) rgX (small_one (by omega) (by omega) (by omega) (by omega)) ((rangeSize_nat _ _).trans (by omega)) F1 N1 ⟨rfl, ?kn⟩ ?turn ?done
  case kn => kst_all
  case turn =>
    rintro I i t m₁ h tk it hi ⟨hf, hk1⟩ hIn F2 N2
    replace F2 := fr_knowX hk1 F2
    clear F1 N1
    dsimp only [kstB] at F2 N2 ⊢
    obtain ⟨c, tc, hcv, hkc'⟩ := strs_at hks i hi
    have hci := hkc c (List.mem_of_getElem? hkc')
    rw [hitP_drop hkc'] at hf
    have hcv' : cvs[(0 + (i : Int)).toNat]? = some (.str c tc) := by rw [show (0 + (i : Int)).toNat = i by omega]; exact hcv
    with_reducible show wpAny _ _ _ _ _ _
    k_fold
    k_steps
    refine Hold.go ?_
    (rename Fr _ _ _ _ => F3; rename News _ _ _ _ => N3; rename (_ ∧ AllLt _ news) => lD)
    refine iter_tupRO #[.str g gt, .str gs gst] 0 (fun j m' => hitH [ch1, ch2] ([g, gs].drop j) c = hitH [ch1, ch2] [g, gs] c ∧ Knows m' [(Str.ofString "interp", ip), (Str.ofString "generic", .str g gt), (Str.ofString "group", .str gs gst), (Str.ofString "classes", .ref kl), (Str.ofString "envs", .ref el), (Str.ofString "place", .int (0 + (i : Int)) t)]) (by rfl) F3 N3 (.head _) ⟨rfl, ?kn2⟩ ?turn2 ?done2
    case kn2 => kst_all
    case turn2 =>
      rintro I2 j v m₂ h2 tk2 it2 hj hv ⟨hf2, hk2⟩ hIn2 F4 N4
      replace F4 := fr_knowX hk2 F4
      clear F3 N3
      have hv2 : ∃ hh ht, v = .str hh ht ∧ hh.length ≤ 50 ∧ ((hh ≠ Str.ofString "" ∧ hitH [ch1, ch2] ([g, gs].drop j) c = match hitC [ch1, ch2] (hh ++ Str.ofString "." ++ c) with | some nm => some nm | none => hitH [ch1, ch2] ([g, gs].drop (j + 1)) c) ∨
          (hh = Str.ofString "" ∧ hitH [ch1, ch2] ([g, gs].drop j) c = hitH [ch1, ch2] ([g, gs].drop (j + 1)) c)) := by
        have hj2 : j = 0 ∨ j = 1 := by simp only [List.size_toArray, List.length_cons, List.length_nil] at hj; omega
        rcases hj2 with rfl | rfl
        · cases hv; exact ⟨_, _, rfl, hg, .inl ⟨hgn, hitH_cons _ _ _ _ hgn⟩⟩
        · cases hv
          by_cases hgse : gs = Str.ofString ""
          · exact ⟨_, _, rfl, hgs, .inr ⟨hgse, hitH_skip _ _ _ _ hgse⟩⟩
          · exact ⟨_, _, rfl, hgs, .inl ⟨hgse, hitH_cons _ _ _ _ hgse⟩⟩
      obtain ⟨hh, ht, rfl, hhl, hor⟩ := hv2
      dsimp only [kstB] at F4 N4 ⊢
      with_reducible show wpAny _ _ _ _ _ _
      k_fold
      rcases hor with ⟨hhn, hf3⟩ | ⟨rfl, hf3⟩
      · k_steps
        · rename ((hh == _) = true) => hb
          exact absurd (eq_of_beq hb) hhn
        refine Hold.go ?_
        (rename Fr _ _ _ _ => F5; rename News _ _ _ _ => N5)
        refine iter_listRO #[e1, e2] en (fun l m' => hitC ([ch1, ch2].drop l) (hh ++ Str.ofString "." ++ c) = hitC [ch1, ch2] (hh ++ Str.ofString "." ++ c) ∧ Knows m' [(Str.ofString "interp", ip), (Str.ofString "generic", .str g gt), (Str.ofString "group", .str gs gst), (Str.ofString "classes", .ref kl), (Str.ofString "envs", .ref el), (Str.ofString "place", .int (0 + (i : Int)) t), (Str.ofString "name", .str hh ht)]) (by rfl) F5 N5 (by k_mem) ⟨rfl, ?kn3⟩ ?turn3 ?done3
        case kn3 => kst_all
        case turn3 =>
          rintro I3 l v m₃ h3 tk3 it3 hl hv ⟨hf4, hk3⟩ hIn3 F6 N6
          replace F6 := fr_knowX hk3 F6
          clear F5 N5
          have hv2 : ∃ ch, EnvIn w news v ch ∧ hitC ([ch1, ch2].drop l) (hh ++ Str.ofString "." ++ c) = match findS ch (hh ++ Str.ofString "." ++ c) with | some nm => some nm | none => hitC ([ch1, ch2].drop (l + 1)) (hh ++ Str.ofString "." ++ c) := by
            have hi2 : l = 0 ∨ l = 1 := by simp only [List.size_toArray, List.length_cons, List.length_nil] at hl; omega
            rcases hi2 with rfl | rfl
            · cases hv; exact ⟨_, hE1, hitC_cons _ _ _⟩
            · cases hv; exact ⟨_, hE2, hitC_cons _ _ _⟩
          obtain ⟨ch, hE, hf5⟩ := hv2
          dsimp only [kstB] at F6 N6 ⊢
          with_reducible show wpAny _ _ _ _ _ _
          k_fold
          k_steps
          refine Hold.go ?_
          refine find_ok (by k_asm) (by k_asm) (by k_asm) (by k_asm) (by k_asm) (by rfl) (by ktr_room) (by ktr_units) (EnvIn.mono (fun _ hp => .tail _ (.tail _ (.tail _ (.tail _ hp)))) hE) (by omega) (by omega) (fun r news' h' tk' hr hs' F' N' => ?_)
          cases hq : findS ch (hh ++ Str.ofString "." ++ c) with
          | none =>
            rw [hq] at hr hf5
            have hr' : r = .none := hr
            subst hr'
            k_steps
            (rename Fr _ _ _ _ => F7; rename News _ _ _ _ => N7)
            refine ROEnd.intro F7 N7 hs' ⟨hf5.symm.trans hf4, ?_⟩
            kst_all
          | some nm =>
            rw [hq] at hr hf5
            have hr' := hr
            cases hr' with
            | fn b1 b2 b3 b4 =>
              k_steps
              refine ret _ _ _ _ _ _ _ (.head _) ?_ (fun _ hp => .tail _ (hs' _ (.tail _ (.tail _ (.tail _ (.tail _ hp)))))) (by k_asm) (by k_asm)
              have q1 : hitC [ch1, ch2] (hh ++ Str.ofString "." ++ c) = some nm := by rw [← hf4, hf5]
              rw [q1] at hf3
              have q2 : hitH [ch1, ch2] [g, gs] c = some nm := by rw [← hf2, hf3]
              rw [q2] at hf
              rw [← hf]
              exact ⟨by omega, hr.mono (fun _ hp => .tail _ (hs' _ hp))⟩
        case done3 =>
          rintro m₃ h3 tk3 ⟨hf4, hk3⟩ F6 N6
          replace F6 := fr_know hk3 F6
          clear F5 N5
          dsimp only [kstB] at F6 N6 ⊢
          have hf4' : hitC [ch1, ch2] (hh ++ Str.ofString "." ++ c) = none := by rw [← hf4]; rfl
          rw [hf4'] at hf3
          with_reducible show wpAny _ _ _ _ _ _
          k_steps
          (rename Fr _ _ _ _ => F7; rename News _ _ _ _ => N7)
          refine ROEnd.intro F7 N7 (fun _ hp => hp) ⟨hf3.symm.trans hf2, ?_⟩
          kst_all
      · k_steps
        (rename Fr _ _ _ _ => F7; rename News _ _ _ _ => N7)
        refine ROEnd.intro F7 N7 (fun _ hp => hp) ⟨hf3.symm.trans hf2, ?_⟩
        kst_all
    case done2 =>
      rintro m₂ h2 tk2 ⟨hf2, hk2⟩ F4 N4
      replace F4 := fr_know hk2 F4
      clear F3 N3
      dsimp only [kstB] at F4 N4 ⊢
      have hf2' : hitH [ch1, ch2] [g, gs] c = none := by rw [← hf2]; rfl
      rw [hf2'] at hf
      with_reducible show wpAny _ _ _ _ _ _
      k_steps
      (rename Fr _ _ _ _ => F7; rename News _ _ _ _ => N7)
      refine ROEnd.intro F7 N7 (fun _ hp => .tail _ hp) ⟨hf, ?_⟩
      kst_all
  case done =>
    rintro m₁ h tk ⟨hf, hk1⟩ F2 N2
    clear F1 N1
    with_reducible show wpAny _ _ _ _ _ _
    k_steps
    refine ret _ (-1) _ _ _ _ _ (.head _) ?_ (fun _ hp => .tail _ hp) (by k_asm) (by k_asm)
    have hd : ks.drop cvs.length = [] := by rw [hlen]; exact List.drop_length
    rw [hd] at hf
    rw [← hf]
    exact ⟨rfl, rfl⟩
end PC7

section PC8

theorem default_ok {w : World} {dp un : Nat} {gd : Option (List Code)} {cn : Str} {cs : Scope} {a : Addr} {ccd : Value} {cl : List (Str × Addr)} {outer : List Env} {A₀ : Around} {base h₀ : Heap} {L : Addr} {m : Str → Option Value} {s : Shared}
  {p : Program} {loose : List Str} {mean : ExcName → Option Value} {mg mb : Str → Option Value} {news : List (Addr × Obj)} {ip e1 e2 : Value} {g : Str} {gt : Tok} {ch1 ch2 : List Phi} {el : Addr} {en : Nat} {Q E : Value → Shared → Prop}
  (B : Below A₀ base outer h₀) (F : Fr h₀ L s.heap m) (X : (hd.heap_39 w.params).In h₀) (N : News h₀ L s.heap news) (T : Top p loose mean mg mb h₀) (hk : cs.kind = .function) (hd : dp + 5 < recursionLimit) (hu : un + 40 < cLine)
  (hel : (el, listOf #[e1, e2] en) ∈ news) (hE1 : EnvIn w news e1 ch1) (hE2 : EnvIn w news e2 ch2) (hg : g.length ≤ 50)
  (ret : ∀ r news' h' tk', RIn news' r (hitC [ch1, ch2] (g ++ Str.ofString "." ++ Str.ofString "default")) → (∀ p ∈ news, p ∈ news') → Fr h₀ L h' m → News h₀ L h' news' → Q r {s with heap := h', toks := tk'}) :
  wpAny (model PR w) (ktrTop dp un gd cn cs L a ccd cl outer) (call (.ref 184) [ip, .str g gt, .ref el]) Q E s := by
  have dummy : (fun (_ : OpenLaw) (_ : Params → Frag) => True) PySem.Challenge.rw_ov0049_01 Mine.hd.heap_39 := by
    k_fill
    trivial
  w_top off
  k_with_none
  k_with "call ref" => (refine Hold.of ?_)
  k_with "exec For Name Name cons nil" => (k_here; (rename Fr _ _ _ _ => lF'); (with_unfolding_all refine' For_invVF lF' ?k1 ?k2 ?_; (case k1 => exact rfl); (case k2 => exact rfl); k_whole))
  k_with "pyIter ref" => (refine Hold.of ?_)
  k_with "GPost" => (dsimp only [GPost])
  refine wpAny_call ?_
  k_dflt ktr_enter
  k_steps
  refine Hold.go ?_
  (rename Fr _ _ _ _ => F1; rename News _ _ _ _ => N1)
  refine iter_listG #[e1, e2] en (fun i m' nx => (∀ p ∈ news, p ∈ nx) ∧ hitC ([ch1, ch2].drop i) (g ++ Str.ofString "." ++ Str.ofString "default") = hitC [ch1, ch2] (g ++ Str.ofString "." ++ Str.ofString "default") ∧ Knows m' [(Str.ofString "interp", ip), (Str.ofString "generic", .str g gt), (Str.ofString "envs", .ref el)]) (by rfl) F1 N1 ⟨fun _ hp => hp, rfl, ?kn⟩ ?hJ ?turn ?done
  case kn => kst_all
  case hJ => rintro i m' nx ⟨hs, _⟩; exact hs _ hel
  case turn =>
    rintro I i v m₁ nx h tk it hi hv ⟨hs, hf, hk1⟩ hIn hne F2 N2
    replace F2 := fr_knowX hk1 F2
    clear F1 N1
    dsimp only [kstB] at F2 N2 ⊢
    have hv2 : ∃ ch, EnvIn w nx v ch ∧ hitC ([ch1, ch2].drop i) (g ++ Str.ofString "." ++ Str.ofString "default") = match findS ch (g ++ Str.ofString "." ++ Str.ofString "default") with | some nm => some nm | none => hitC ([ch1, ch2].drop (i + 1)) (g ++ Str.ofString "." ++ Str.ofString "default") := by
      have hi2 : i = 0 ∨ i = 1 := by simp only [List.size_toArray, List.length_cons, List.length_nil] at hi; omega
      rcases hi2 with rfl | rfl
      · cases hv; exact ⟨_, hE1.mono hs, hitC_cons _ _ _⟩
      · cases hv; exact ⟨_, hE2.mono hs, hitC_cons _ _ _⟩
    obtain ⟨ch, hE, hf2⟩ := hv2
    with_reducible show wpAny _ _ _ _ _ _
    k_fold
    k_steps
    refine Hold.go ?_
    refine find_ok (by k_asm) (by k_asm) (by k_asm) (by k_asm) (by k_asm) (by rfl) (by ktr_room) (by ktr_units) (EnvIn.mono (fun _ hp => .tail _ hp) hE) (by omega) (by decide) (fun r news' h' tk' hr hs' F' N' => ?_)
    cases hq : findS ch (g ++ Str.ofString "." ++ Str.ofString "default") with
    | none =>
      rw [hq] at hr hf2
      have hr' : r = .none := hr
      subst hr'
      k_steps
      (rename Fr _ _ _ _ => F5; rename News _ _ _ _ => N5)
      refine GEnd.intro nx F5 N5 (hs' _ (.head _)) (fun p hp => hs' _ (.tail _ hp)) hne ⟨hs, hf2.symm.trans hf, ?_⟩
      kst_all
    | some nm =>
      rw [hq] at hr hf2
      have hr' := hr
      cases hr' with
      | fn b1 b2 b3 b4 =>
        k_steps
        refine ret _ _ _ _ ?_ (fun p hp => hs' _ (.tail _ (hs _ hp))) (by k_asm) (by k_asm)
        rw [← hf, hf2]
        exact hr.mono hs'
  case done =>
    rintro m₁ nx h tk ⟨hs, hf, hk1⟩ F2 N2
    clear F1 N1
    with_reducible show wpAny _ _ _ _ _ _
    k_steps
    refine ret _ _ _ _ ?_ hs (by k_asm) (by k_asm)
    rw [← hf]; rfl
end PC8

section PC9
theorem take_okU {w : World} {dp un : Nat} {gd : Option (List Code)} {cn : Str} {cs : Scope} {a : Addr} {ccd : Value} {cl : List (Str × Addr)} {outer : List Env} {A₀ : Around} {base h₀ : Heap} {L : Addr} {m : Str → Option Value} {s : Shared}
  {p : Program} {loose : List Str} {mean : ExcName → Option Value} {mg mb : Str → Option Value} {news : List (Addr × Obj)} {g : Obj → List (Addr × Obj)} {c : Addr} {vs : List Value} {ns : List Int} {n : Nat} {k : Int} {tk : Tok} {Q E : Value → Shared → Prop}
  (B : Below A₀ base outer h₀) (F : Fr h₀ L s.heap m) (X : (hd.heap_39 w.params).In h₀) (N : News h₀ L s.heap news) (T : Top p loose mean mg mb h₀) (hk : cs.kind = .function) (hd : dp + 1 < recursionLimit) (hu : un + 8 < cLine)
  (U : UpdF c (listOf vs.toArray n) news g) (hI : IntsAre vs ns) (hz : vs.length ≤ 200) (hm : 0 < k) (hm5 : k ≤ 5)
  (ret : ∀ r t vs' ns' n' h' tk', 0 ≤ r → r < k → IntsAre vs' ns' → vs'.length ≤ vs.length → Fr h₀ L h' m → News h₀ L h' (g (listOf vs'.toArray n')) → Q (.int r t) {s with heap := h', toks := tk'}) :
  wpAny (model PR w) (ktrTop dp un gd cn cs L a ccd cl outer) (call (.ref 198) [.ref c, .int k tk]) Q E s := by
  obtain ⟨pre, post, e1, e2, o1, o2⟩ := U.split
  subst e1
  refine take_ok (n := n) (rest := pre ++ post) B F X (fun p hp => N p ?_) T hk hd hu (fun p hp => ?_) hI hz hm hm5 (fun r t vs' ns' n' h' tk' h1 h2 h3 h4 F' N' => ret r t vs' ns' n' h' tk' h1 h2 h3 h4 F' ?_)
  · rcases List.mem_cons.mp hp with rfl | hp
    · exact List.mem_append.mpr (.inr (.head _))
    · rcases List.mem_append.mp hp with hp | hp
      · exact List.mem_append.mpr (.inl hp)
      · exact List.mem_append.mpr (.inr (.tail _ hp))
  · rcases List.mem_append.mp hp with hp | hp
    · exact o1 p hp
    · exact o2 p hp
  · rw [e2]
    intro p hp
    refine N' p ?_
    rcases List.mem_append.mp hp with hp | hp
    · exact .tail _ (List.mem_append.mpr (.inl hp))
    · rcases List.mem_cons.mp hp with rfl | hp
      · exact .head _
      · exact .tail _ (List.mem_append.mpr (.inr hp))
end PC9

section PE1

theorem env_ok {w : World} {dp un : Nat} {gd : Option (List Code)} {cn : Str} {cs : Scope} {a : Addr} {ccd : Value} {cl : List (Str × Addr)} {outer : List Env} {A₀ : Around} {base h₀ : Heap} {L : Addr} {m : Str → Option Value} {s : Shared}
  {p : Program} {loose : List Str} {mean : ExcName → Option Value} {mg mb : Str → Option Value} {news : List (Addr × Obj)} {k : Int} {kt : Tok} {pv : Value} {Q E : Value → Shared → Prop}
  (B : Below A₀ base outer h₀) (F : Fr h₀ L s.heap m) (X : (hd.heap_39 w.params).In h₀) (N : News h₀ L s.heap news) (T : Top p loose mean mg mb h₀) (hk : cs.kind = .function) (hd : dp + 2 < recursionLimit) (hu : un + 16 < cLine)
  (ret : ∀ e d f lk o lo es n h' tk', (∀ p ∈ news, p.1 < d) → d < e → e < f → f < lk → (f == sysModules) = false → o.IsDictOf (PySem.strKind PR w) [] → getL (Str.ofString "frame") es = some (some (.ref f)) → getL (Str.ofString "parent") es = some (some pv) →
     Fr h₀ L h' m → News h₀ L h' ((lk, lo) :: (f, o) :: (e, instObj 138 d) :: (d, dictOf es n) :: news) → Q (.ref e) {s with heap := h', toks := tk'}) :
  wpAny (model PR w) (ktrTop dp un gd cn cs L a ccd cl outer) (call (.ref 138) [.int k kt, pv]) Q E s := by
  have dummy : (fun (_ : OpenLaw) (_ : Params → Frag) => True) PySem.Challenge.rw_ov0049_01 Mine.hd.heap_39 := by
    k_fill
    trivial
  w_top off
  k_with_none
  k_dflt (refine' call_cls ?k1 ?k2 ?k3 ?k4 ?k5 ?k6 ?_; (case k1 => k_asm); (case k2 => k_asm); (case k3 => k_asm); (case k4 => k_is); (case k5 => k_is); (case k6 => k_is); k_whole; intro x' d' h' F' N' l1 l2; (try k_lt2 l2); (try k_sweep))
  k_dflt (refine' code_def ?k1 ?k2 ?k3 ?k4 ?k5 ?kA ?kF ?kK ?k6 ?k7 ?k8 ?k9 ?kB ?_ ?c2 ?c3 ?c4 ?c5; (case kA => exact rfl); (case kF => exact rfl); (case kK => assumption); (case k1 => k_asm); (case k2 => k_asm); (case k3 => k_asm); (case k4 => k_asm); (case k5 => k_asm); (case k6 => k_is); (case k7 => k_is); (case k8 => ktr_room); (case k9 => first | exact BindsTo.of_eq rfl | exact binds_K (by k_in) rfl (by k_is) rfl rfl rfl); (case c5 => decide); (case kB => exact locs rfl); (case c2 => exact rfl); (case c3 => exact rfl); (case c4 => exact rfl); k_whole; intro g' L' h' FG' F' N' B' X' T'; (try dsimp only); (try k_fold))
  k_steps
  refine' ret _ _ _ _ _ _ _ _ _ _ l1 l2 ?a ?b ?c ?d ?e ?f ?g ?h
  case h => k_asm
  case g => k_asm
  case a => refine ltN ?_; omega
  case b => refine ltN ?_; omega
  case c => assumption
  case d => assumption
  case e => k_get
  case f => k_get

theorem builtin_ok {w : World} {dp un : Nat} {gd : Option (List Code)} {cn : Str} {cs : Scope} {a : Addr} {ccd : Value} {cl : List (Str × Addr)} {outer : List Env} {A₀ : Around} {base h₀ : Heap} {L : Addr} {m : Str → Option Value} {s : Shared}
  {p : Program} {loose : List Str} {mean : ExcName → Option Value} {mg mb : Str → Option Value} {news : List (Addr × Obj)} {nm : Str} {t1 t2 : Tok} {Q E : Value → Shared → Prop}
  (B : Below A₀ base outer h₀) (F : Fr h₀ L s.heap m) (X : (hd.heap_39 w.params).In h₀) (N : News h₀ L s.heap news) (T : Top p loose mean mg mb h₀) (hk : cs.kind = .function) (hd : dp + 2 < recursionLimit) (hu : un + 16 < cLine)
  (ret : ∀ x d es n h' tk', (∀ p ∈ news, p.1 < d) → d < x → FIn [(x, instObj 116 d), (d, dictOf es n)] (.ref x) (some nm) →
     Fr h₀ L h' m → News h₀ L h' ((x, instObj 116 d) :: (d, dictOf es n) :: news) → Q (.ref x) {s with heap := h', toks := tk'}) :
  wpAny (model PR w) (ktrTop dp un gd cn cs L a ccd cl outer) (call (.ref 116) [.str nm t1, .bool false, .none, .str (Str.ofString "") t2]) Q E s := by
  have dummy : (fun (_ : OpenLaw) (_ : Params → Frag) => True) PySem.Challenge.rw_ov0049_01 Mine.hd.heap_39 := by
    k_fill
    trivial
  w_top off
  k_with_none
  k_dflt (refine' call_cls ?k1 ?k2 ?k3 ?k4 ?k5 ?k6 ?_; (case k1 => k_asm); (case k2 => k_asm); (case k3 => k_asm); (case k4 => k_is); (case k5 => k_is); (case k6 => k_is); k_whole; intro x' d' h' F' N' l1 l2; (try k_lt2 l2); (try k_sweep))
  k_dflt (refine' code_def ?k1 ?k2 ?k3 ?k4 ?k5 ?kA ?kF ?kK ?k6 ?k7 ?k8 ?k9 ?kB ?_ ?c2 ?c3 ?c4 ?c5; (case kA => exact rfl); (case kF => exact rfl); (case kK => assumption); (case k1 => k_asm); (case k2 => k_asm); (case k3 => k_asm); (case k4 => k_asm); (case k5 => k_asm); (case k6 => k_is); (case k7 => k_is); (case k8 => ktr_room); (case k9 => first | exact BindsTo.of_eq rfl | exact binds_K (by k_in) rfl (by k_is) rfl rfl rfl); (case c5 => decide); (case kB => exact locs rfl); (case c2 => exact rfl); (case c3 => exact rfl); (case c4 => exact rfl); k_whole; intro g' L' h' FG' F' N' B' X' T'; (try dsimp only); (try k_fold))
  k_steps
  refine' ret _ _ _ _ _ _ l1 l2 ?f ?g ?h
  case h => k_asm
  case g => k_asm
  case f => exact .fn (.head _) (.tail _ (.head _)) (by k_get) (by k_get)

theorem vector_ok {w : World} {dp un : Nat} {gd : Option (List Code)} {cn : Str} {cs : Scope} {a : Addr} {ccd : Value} {cl : List (Str × Addr)} {outer : List Env} {A₀ : Around} {base h₀ : Heap} {L : Addr} {m : Str → Option Value} {s : Shared}
  {p : Program} {loose : List Str} {mean : ExcName → Option Value} {mg mb : Str → Option Value} {news : List (Addr × Obj)} {l : Addr} {t1 : Tok} {Q E : Value → Shared → Prop}
  (B : Below A₀ base outer h₀) (F : Fr h₀ L s.heap m) (X : (hd.heap_39 w.params).In h₀) (N : News h₀ L s.heap news) (T : Top p loose mean mg mb h₀) (hk : cs.kind = .function) (hd : dp + 2 < recursionLimit) (hu : un + 16 < cLine)
  (ret : ∀ x d es n h' tk', (∀ p ∈ news, p.1 < d) → d < x → FIn [(x, instObj 95 d), (d, dictOf es n)] (.ref x) none →
     Fr h₀ L h' m → News h₀ L h' ((x, instObj 95 d) :: (d, dictOf es n) :: news) → Q (.ref x) {s with heap := h', toks := tk'}) :
  wpAny (model PR w) (ktrTop dp un gd cn cs L a ccd cl outer) (call (.ref 95) [.str (Str.ofString "integer") t1, .ref l]) Q E s := by
  have dummy : (fun (_ : OpenLaw) (_ : Params → Frag) => True) PySem.Challenge.rw_ov0049_01 Mine.hd.heap_39 := by
    k_fill
    trivial
  w_top off
  k_with_none
  k_dflt (refine' call_cls ?k1 ?k2 ?k3 ?k4 ?k5 ?k6 ?_; (case k1 => k_asm); (case k2 => k_asm); (case k3 => k_asm); (case k4 => k_is); (case k5 => k_is); (case k6 => k_is); k_whole; intro x' d' h' F' N' l1 l2; (try k_lt2 l2); (try k_sweep))
  k_dflt (refine' code_def ?k1 ?k2 ?k3 ?k4 ?k5 ?kA ?kF ?kK ?k6 ?k7 ?k8 ?k9 ?kB ?_ ?c2 ?c3 ?c4 ?c5; (case kA => exact rfl); (case kF => exact rfl); (case kK => assumption); (case k1 => k_asm); (case k2 => k_asm); (case k3 => k_asm); (case k4 => k_asm); (case k5 => k_asm); (case k6 => k_is); (case k7 => k_is); (case k8 => ktr_room); (case k9 => first | exact BindsTo.of_eq rfl | exact binds_K (by k_in) rfl (by k_is) rfl rfl rfl); (case c5 => decide); (case kB => exact locs rfl); (case c2 => exact rfl); (case c3 => exact rfl); (case c4 => exact rfl); k_whole; intro g' L' h' FG' F' N' B' X' T'; (try dsimp only); (try k_fold))
  k_steps
  refine' ret _ _ _ _ _ _ l1 l2 ?f ?g ?h
  case h => k_asm
  case g => k_asm
  case f => exact .val (.head _) (.tail _ (.head _)) (by k_get)
end PE1

section PW1


local macro_rules | `(tactic| size_fits) => `(tactic| (simp only [List.size_toArray, List.length_append, List.length_cons, List.length_nil, PySem.sizeLine_eq]; omega))

theorem GEnd.cons {h₀ : Heap} {L I : Addr} {it : Obj} {J : (Str → Option Value) → List (Addr × Obj) → Prop} {s₁ : Shared} {h' : Heap} {tk : Nat} {m' : Str → Option Value} {nx : List (Addr × Obj)} (F : Fr h₀ L h' m') (N : News h₀ L h' ((I, it) :: nx))
    (hlt : AllLt I nx) (hJ : J m' nx) : GEnd h₀ L I it J s₁ { s₁ with heap := h', toks := tk } :=
  GEnd.intro nx F N (.head _) (fun _ hp => .tail _ hp) (fun p hp => Nat.ne_of_lt (kst_ltOf hlt p hp)) hJ
def theWords : List Str := [Str.ofString "draw.a", Str.ofString "draw.b", Str.ofString "draw.c", Str.ofString "draw.default", Str.ofString "Shapes.a", Str.ofString "Shapes.b", Str.ofString "Shapes.c", Str.ofString "Shapes.default"]
theorem strs_snoc {vs : List Value} {ss : List Str} {x : Str} {t : Tok} (h : StrsAre vs ss) : StrsAre (vs ++ [.str x t]) (ss ++ [x]) := by
  induction h with
  | nil => exact .cons _ _ .nil
  | cons s tk _ ih => exact .cons s tk ih
theorem words_next {i j : Nat} {hh tt : Str} (hi : (i = 0 ∧ hh = Str.ofString "draw") ∨ (i = 1 ∧ hh = Str.ofString "Shapes"))
    (hj : (j = 0 ∧ tt = Str.ofString "a") ∨ (j = 1 ∧ tt = Str.ofString "b") ∨ (j = 2 ∧ tt = Str.ofString "c") ∨ (j = 3 ∧ tt = Str.ofString "default")) :
    theWords.take (4 * i + j) ++ [hh ++ Str.ofString "." ++ tt] = theWords.take (4 * i + (j + 1)) := by
  rcases hi with ⟨rfl, rfl⟩ | ⟨rfl, rfl⟩ <;> rcases hj with ⟨rfl, rfl⟩ | ⟨rfl, rfl⟩ | ⟨rfl, rfl⟩ | ⟨rfl, rfl⟩ <;> decide
theorem words_ok {w : World} {dp un : Nat} {gd : Option (List Code)} {cn : Str} {cs : Scope} {a : Addr} {ccd : Value} {cl : List (Str × Addr)} {outer : List Env} {A₀ : Around} {base h₀ : Heap} {L : Addr} {m : Str → Option Value} {s : Shared}
  {p : Program} {loose : List Str} {mean : ExcName → Option Value} {mg mb : Str → Option Value} {news : List (Addr × Obj)} {Q E : Value → Shared → Prop}
  (B : Below A₀ base outer h₀) (F : Fr h₀ L s.heap m) (X : (hd.heap_39 w.params).In h₀) (N : News h₀ L s.heap news) (T : Top p loose mean mg mb h₀) (hk : cs.kind = .function) (hd : dp + 2 < recursionLimit) (hu : un + 16 < cLine)
  (ret : ∀ l n ws h' tk', (∀ p ∈ news, p.1 < l) → StrsAre ws theWords →
     Fr h₀ L h' m → News h₀ L h' ((l, listOf ws.toArray n) :: news) → Q (.ref l) {s with heap := h', toks := tk'}) :
  wpAny (model PR w) (ktrTop dp un gd cn cs L a ccd cl outer) (call (.ref 205) []) Q E s := by
  have dummy : (fun (_ : OpenLaw) (_ : Params → Frag) => True) PySem.Challenge.rw_ov0049_01 Mine.hd.heap_39 := by
    k_fill
    trivial
  w_top off
  k_with_none
  k_with "exec For Name List cons nil" => (k_here; (rename Fr _ _ _ _ => lF'); (with_unfolding_all refine' For_invVF lF' ?k1 ?k2 ?_; (case k1 => exact rfl); (case k2 => exact rfl); k_whole))
  k_with "pyIter ref" => (refine Hold.of ?_)
  refine wpAny_call ?_
  k_dflt ktr_enter
  k_steps
  refine Hold.go ?_
  rename_i l1 h1 l2 h2 D h3 F1 N1 l3
  refine iter_listG #[.str (Str.ofString "draw") tk, .str (Str.ofString "Shapes") (tk + 1)] 0 (fun i m' nx => ∃ us c, nx = (l1, listOf (List.toArray us) c) :: (D, listOf #[.str (Str.ofString "draw") tk, .str (Str.ofString "Shapes") (tk + 1)] 0) :: news ∧ StrsAre us (theWords.take (4 * i)) ∧ Knows m' [(Str.ofString "words", .ref l1)]) (by rfl) F1 (kst_newsOf N1 (by kst_inAny)) ⟨[], 0, rfl, .nil, ?kn⟩ ?hJ ?turn ?done
  case kn => kst_all
  case hJ => rintro i m' nx ⟨us, c, rfl, _⟩; exact .tail _ (.head _)
  case turn =>
    rintro I i v m₁ nx h tk1 it hi hv ⟨us, c, rfl, hS, hk1⟩ hIn hne F2 N2
    replace F2 := fr_knowX hk1 F2
    clear F1 N1
    have hv2 : ∃ hh ht, v = .str hh ht ∧ hh.length ≤ 50 ∧ ((i = 0 ∧ hh = Str.ofString "draw") ∨ (i = 1 ∧ hh = Str.ofString "Shapes")) := by
      have hi2 : i = 0 ∨ i = 1 := by simp only [List.size_toArray, List.length_cons, List.length_nil] at hi; omega
      rcases hi2 with rfl | rfl
      · cases hv; exact ⟨_, _, rfl, by decide, .inl ⟨rfl, rfl⟩⟩
      · cases hv; exact ⟨_, _, rfl, by decide, .inr ⟨rfl, rfl⟩⟩
    obtain ⟨hh, ht, rfl, hhl, hcase⟩ := hv2
    have hi2 : i ≤ 1 := by omega
    k_lt hIn
    have hnl : ∀ p ∈ news, p.1 ≠ l1 := fun p hp => Nat.ne_of_lt (l2 p hp)
    dsimp only at F2 N2 ⊢
    with_reducible show wpAny _ _ _ _ _ _
    k_fold
    k_steps
    refine Hold.go ?_
    rename_i D2 h4 F3 N3 l4

    refine iter_listG #[.str (Str.ofString "a") tk1, .str (Str.ofString "b") (tk1 + 1), .str (Str.ofString "c") (tk1 + 1 + 1), .str (Str.ofString "default") (tk1 + 1 + 1 + 1)] 0
      (fun j m' nx => ∃ us c, nx = (D2, listOf #[.str (Str.ofString "a") tk1, .str (Str.ofString "b") (tk1 + 1), .str (Str.ofString "c") (tk1 + 1 + 1), .str (Str.ofString "default") (tk1 + 1 + 1 + 1)] 0) :: (I, it) :: (l1, listOf (List.toArray us) c) :: (D, listOf #[.str (Str.ofString "draw") tk, .str (Str.ofString "Shapes") (tk + 1)] 0) :: news ∧ StrsAre us (theWords.take (4 * i + j)) ∧ Knows m' [(Str.ofString "words", .ref l1), (Str.ofString "head", .str hh ht)]) (by rfl) F3 N3 ⟨us, c, rfl, hS, ?kn⟩ ?hJ2 ?turn2 ?done2
    case kn => kst_all
    case hJ2 => rintro i m' nx ⟨us, c, rfl, _⟩; exact .head _
    case turn2 =>
      clear hS hk1
      rintro I2 j v m₂ nx h5 tk3 it2 hj hv2 ⟨us, c, rfl, hS, hk2⟩ hIn2 hne2 F4 N4
      replace F4 := fr_knowX hk2 F4
      clear F3 N3
      have hv3 : ∃ tt kt, v = .str tt kt ∧ tt.length ≤ 50 ∧ ((j = 0 ∧ tt = Str.ofString "a") ∨ (j = 1 ∧ tt = Str.ofString "b") ∨ (j = 2 ∧ tt = Str.ofString "c") ∨ (j = 3 ∧ tt = Str.ofString "default")) := by
        have hi2 : j = 0 ∨ j = 1 ∨ j = 2 ∨ j = 3 := by simp only [List.size_toArray, List.length_cons, List.length_nil] at hj; omega
        rcases hi2 with rfl | rfl | rfl | rfl
        · cases hv2; exact ⟨_, _, rfl, by decide, .inl ⟨rfl, rfl⟩⟩
        · cases hv2; exact ⟨_, _, rfl, by decide, .inr (.inl ⟨rfl, rfl⟩)⟩
        · cases hv2; exact ⟨_, _, rfl, by decide, .inr (.inr (.inl ⟨rfl, rfl⟩))⟩
        · cases hv2; exact ⟨_, _, rfl, by decide, .inr (.inr (.inr ⟨rfl, rfl⟩))⟩
      obtain ⟨tt, kt, rfl, htl, hcase2⟩ := hv3
      have hul : us.length ≤ 8 := by
        rw [hS.length]; exact Nat.le_trans (List.length_take_le _ _) (by have : j ≤ 3 := (by omega); omega)
      k_lt hIn2
      dsimp only at F4 N4 ⊢
      with_reducible show wpAny _ _ _ _ _ _
      k_fold
      k_steps
      (rename Fr _ _ _ _ => F5; rename News _ _ _ _ => N5)
      simp only [List.push_toArray] at N5
      refine GEnd.cons F5 N5 hIn2 ⟨_, _, rfl, ?_, ?kn3⟩
      case kn3 => kst_all
      rw [← words_next hcase hcase2]
      exact strs_snoc hS
    case done2 =>
      rintro m₂ nx h5 tk3 ⟨us, c, rfl, hS, hk2⟩ F4 N4
      replace F4 := fr_know hk2 F4
      clear F3 N3
      dsimp only at F4 N4 ⊢
      with_reducible show wpAny _ _ _ _ _ _
      k_steps
      (rename Fr _ _ _ _ => F5; rename News _ _ _ _ => N5)
      refine GEnd.intro _ F5 N5 (.tail _ (.head _)) (fun p hp => .tail _ (.tail _ hp)) (fun p hp => ?_) ⟨_, _, rfl, ?_, ?kn3⟩
      case kn3 => kst_all
      · refine Nat.ne_of_lt (kst_ltOf (d := I) ?_ p hp); exact hIn
      · exact hS
  case done =>
    rintro m₁ nx h tk1 ⟨us, c, rfl, hS, hk1⟩ F2 N2
    replace F2 := fr_know hk1 F2
    clear F1 N1
    dsimp only at F2 N2 ⊢
    with_reducible show wpAny _ _ _ _ _ _
    k_steps
    refine' ret _ _ _ _ _ ?_ ?_ ?_ ?_
    rotate_right
    · refine kst_newsOf (by k_asm) (by kst_inAny)
    · exact l2
    · exact hS
    · k_asm
end PW1

section PS1
abbrev Led := List (Addr × Obj)
/-- the law's own objects: the cells, the three lists, the four environments with their dicts and frames, the four name dicts -/
structure Cfg where
  c : Addr
  cl : Addr
  ol : Addr
  pl : Addr
  fl : Addr
  e : Nat → Addr
  d : Nat → Addr
  g : Nat → Addr
  q : Nat → Addr
  es : Nat → List DictEntry
  en : Nat → Nat
  no : Nat
  np : Nat
  nf : Nat
  co : Obj
  u0 : Tok
  u1 : Tok
  u2 : Tok
  u3 : Tok
def parOf (K : Cfg) (i : Nat) : Value := if i = 1 then .ref (K.e 0) else if i = 2 then .ref (K.e 1) else .none
structure Stat (K : Cfg) (rest : Led) : Prop where
  cell : (K.cl, K.co) ∈ rest
  cellD : K.co.data = .cell (some (.ref K.c))
  ol : (K.ol, listOf #[.int (-1) K.u0, .int 0 K.u1, .int 1 K.u2, .int (-1) K.u3] K.no) ∈ rest
  pl : (K.pl, listOf #[.ref (K.e 0), .ref (K.e 1), .ref (K.e 2), .ref (K.e 3)] K.np) ∈ rest
  fl : (K.fl, listOf #[.ref (K.q 0), .ref (K.q 1), .ref (K.q 2), .ref (K.q 3)] K.nf) ∈ rest
  inst : ∀ i, i < 4 → (K.e i, instObj 138 (K.d i)) ∈ rest
  dict : ∀ i, i < 4 → (K.d i, dictOf (K.es i) (K.en i)) ∈ rest
  fr : ∀ i, i < 4 → getL (Str.ofString "frame") (K.es i) = some (some (.ref (K.g i)))
  par : ∀ i, i < 4 → getL (Str.ofString "parent") (K.es i) = some (some (parOf K i))
  sysg : ∀ i, i < 4 → (K.g i == sysModules) = false
  sysq : ∀ i, i < 4 → (K.q i == sysModules) = false
  cg : ∀ i, i < 4 → K.g i ≠ K.c
  cq : ∀ i, i < 4 → K.q i ≠ K.c
  gq : ∀ i j, i < 4 → j < 4 → K.g i ≠ K.q j
  gg : ∀ i j, i < 4 → j < 4 → i ≠ j → K.g i ≠ K.g j
  qq : ∀ i j, i < 4 → j < 4 → i ≠ j → K.q i ≠ K.q j
  off : ∀ p ∈ rest, p.1 ≠ K.c ∧ ∀ i, i < 4 → p.1 ≠ K.g i ∧ p.1 ≠ K.q i
def dynL (K : Cfg) (lc : Obj) (go qo : Nat → Obj) : Led := (K.c, lc) :: (List.range 4).flatMap fun i => [(K.g i, go i), (K.q i, qo i)]
theorem mem_dynL {K : Cfg} {lc : Obj} {go qo : Nat → Obj} {p : Addr × Obj} : p ∈ dynL K lc go qo ↔ p = (K.c, lc) ∨ ∃ i, i < 4 ∧ (p = (K.g i, go i) ∨ p = (K.q i, qo i)) := by
  simp [dynL, List.mem_flatMap]
/-- a name is a text that can be -/
def nmOk (nm : Str) : Prop := nm.cps.all (· < 0x110000) = true
def NmOk (φ : Phi) : Prop := ∀ k nm, φ k = some (some nm) → nmOk nm
def Dyn (w : World) (rest : Led) (go qo : Nat → Obj) (φ : Nat → Phi) (n : Nat) : Prop := ∀ i, i < 4 → ∃ kv kq, (go i).IsDictOf (PySem.strKind PR w) kv ∧ (qo i).IsDictOf (PySem.strKind PR w) kq ∧ FrameIn rest kv (φ i) ∧ NamesIn kq (φ i) ∧ kv.length ≤ n ∧ kq.length ≤ n ∧ NmOk (φ i)
def upd {α : Type} (f : Nat → α) (a : Nat) (x : α) : Nat → α := fun i => if i = a then x else f i

theorem Stat.pick {K : Cfg} {rest : Led} (S : Stat K rest) (pre : Led) (hpre : ∀ p ∈ pre, p.1 ≠ K.c ∧ ∀ i, i < 4 → p.1 ≠ K.g i ∧ p.1 ≠ K.q i) (lc : Obj) (go qo : Nat → Obj) {a : Nat} (ha : a < 4) :
    ∃ ot : Led, (∀ p ∈ (K.c, lc) :: (K.g a, go a) :: (K.q a, qo a) :: ot, p ∈ pre ++ (dynL K lc go qo ++ rest)) ∧ (∀ p ∈ pre, p ∈ ot) ∧ (∀ p ∈ rest, p ∈ ot) ∧ (∀ p ∈ ot, p.1 ≠ K.c) ∧ (∀ p ∈ ot, p.1 ≠ K.g a) ∧ (∀ p ∈ ot, p.1 ≠ K.q a) ∧
      ∀ lc' g' q', ∀ p ∈ dynL K lc' (upd go a g') (upd qo a q') ++ rest, p ∈ (K.c, lc') :: (K.g a, g') :: (K.q a, q') :: ot := by
  refine ⟨(pre ++ (dynL K lc go qo ++ rest)).filter (fun p => decide (p.1 ≠ K.c ∧ p.1 ≠ K.g a ∧ p.1 ≠ K.q a)), ?_, ?_, ?_, ?_, ?_, ?_, ?_⟩
  · intro p hp
    rcases List.mem_cons.mp hp with rfl | hp
    · exact List.mem_append.mpr (.inr (List.mem_append.mpr (.inl (mem_dynL.mpr (.inl rfl)))))
    rcases List.mem_cons.mp hp with rfl | hp
    · exact List.mem_append.mpr (.inr (List.mem_append.mpr (.inl (mem_dynL.mpr (.inr ⟨a, ha, .inl rfl⟩)))))
    rcases List.mem_cons.mp hp with rfl | hp
    · exact List.mem_append.mpr (.inr (List.mem_append.mpr (.inl (mem_dynL.mpr (.inr ⟨a, ha, .inr rfl⟩)))))
    exact (List.mem_filter.mp hp).1
  · intro p hp
    exact List.mem_filter.mpr ⟨List.mem_append.mpr (.inl hp), decide_eq_true ⟨(hpre p hp).1, ((hpre p hp).2 a ha).1, ((hpre p hp).2 a ha).2⟩⟩
  · intro p hp
    exact List.mem_filter.mpr ⟨List.mem_append.mpr (.inr (List.mem_append.mpr (.inr hp))), decide_eq_true ⟨(S.off p hp).1, ((S.off p hp).2 a ha).1, ((S.off p hp).2 a ha).2⟩⟩
  · intro p hp; exact (of_decide_eq_true (List.mem_filter.mp hp).2).1
  · intro p hp; exact (of_decide_eq_true (List.mem_filter.mp hp).2).2.1
  · intro p hp; exact (of_decide_eq_true (List.mem_filter.mp hp).2).2.2
  · intro lc' g' q' p hp
    have keep : ∀ p, p ∈ dynL K lc go qo ++ rest → p.1 ≠ K.c → p.1 ≠ K.g a → p.1 ≠ K.q a → p ∈ (K.c, lc') :: (K.g a, g') :: (K.q a, q') :: (pre ++ (dynL K lc go qo ++ rest)).filter (fun p => decide (p.1 ≠ K.c ∧ p.1 ≠ K.g a ∧ p.1 ≠ K.q a)) := fun p h1 h2 h3 h4 =>
      .tail _ (.tail _ (.tail _ (List.mem_filter.mpr ⟨List.mem_append.mpr (.inr h1), decide_eq_true ⟨h2, h3, h4⟩⟩)))
    rcases List.mem_append.mp hp with hp | hp
    · rcases mem_dynL.mp hp with rfl | ⟨i, hi, rfl | rfl⟩
      · exact .head _
      · by_cases e : i = a
        · subst e; simp [upd]
        · have q : upd go a g' i = go i := by simp [upd, e]
          rw [q]
          exact keep _ (List.mem_append.mpr (.inl (mem_dynL.mpr (.inr ⟨i, hi, .inl rfl⟩)))) (S.cg i hi) (S.gg i a hi ha e) (S.gq i a hi ha)
      · by_cases e : i = a
        · subst e; simp [upd]
        · have q : upd qo a q' i = qo i := by simp [upd, e]
          rw [q]
          exact keep _ (List.mem_append.mpr (.inl (mem_dynL.mpr (.inr ⟨i, hi, .inr rfl⟩)))) (S.cq i hi) (Ne.symm (S.gq a i ha hi)) (S.qq i a hi ha e)
    · exact keep _ (List.mem_append.mpr (.inr hp)) (S.off p hp).1 ((S.off p hp).2 a ha).1 ((S.off p hp).2 a ha).2

theorem Stat.more {K : Cfg} {rest : Led} (S : Stat K rest) (ex : Led) (hex : ∀ p ∈ ex, p.1 ≠ K.c ∧ ∀ i, i < 4 → p.1 ≠ K.g i ∧ p.1 ≠ K.q i) : Stat K (ex ++ rest) where
  cell := List.mem_append.mpr (.inr S.cell)
  cellD := S.cellD
  ol := List.mem_append.mpr (.inr S.ol)
  pl := List.mem_append.mpr (.inr S.pl)
  fl := List.mem_append.mpr (.inr S.fl)
  inst i hi := List.mem_append.mpr (.inr (S.inst i hi))
  dict i hi := List.mem_append.mpr (.inr (S.dict i hi))
  fr := S.fr
  par := S.par
  sysg := S.sysg
  sysq := S.sysq
  cg := S.cg
  cq := S.cq
  gq := S.gq
  gg := S.gg
  qq := S.qq
  off p hp := by
    rcases List.mem_append.mp hp with hp | hp
    · exact hex p hp
    · exact S.off p hp

theorem Dyn.more {w : World} {rest : Led} {go qo : Nat → Obj} {φ : Nat → Phi} {n n' : Nat} (D : Dyn w rest go qo φ n) (ex : Led) (hn : n ≤ n') : Dyn w (ex ++ rest) go qo φ n' := fun i hi => by
  obtain ⟨kv, kq, a, b, c, d, e, f, o⟩ := D i hi
  exact ⟨kv, kq, a, b, c.mono (fun _ hp => List.mem_append.mpr (.inr hp)), d, Nat.le_trans e hn, Nat.le_trans f hn, o⟩

/-- one word of one environment set -/
def setPhi (φ : Phi) (key : Str) (f : Option Str) : Phi := fun k => if k = key then some f else φ k
theorem va_cons (kv : Str × Value) (r : List (Str × Value)) (x : Str) : PySem.valueAt (kv :: r) x = if kv.1 = x then some kv.2 else PySem.valueAt r x := by
  unfold PySem.valueAt
  rw [List.find?_cons]
  by_cases h : kv.1 = x <;> simp [h]
theorem va_map (k : Str) (v : Value) (x : Str) : ∀ kvs : List (Str × Value), PySem.valueAt (kvs.map fun kv => if kv.1 = k then (kv.1, v) else kv) x = if x = k then (if kvs.any (fun kv => kv.1 = k) then some v else none) else PySem.valueAt kvs x
  | [] => by simp [PySem.valueAt]
  | kv :: r => by
    rw [List.map_cons, va_cons, va_map k v x r, va_cons]
    by_cases h : kv.1 = k
    · by_cases hx : x = k
      · subst hx; simp [h]
      · have hx' : ¬ k = x := fun e => hx e.symm
        simp [h, hx, hx']
    · by_cases hx : x = k
      · subst hx
        rw [if_pos rfl, if_neg h, if_neg h, if_pos rfl, List.any_cons, decide_eq_false h, Bool.false_or]
      · simp [h, hx]
theorem va_app (k : Str) (v : Value) (x : Str) : ∀ kvs : List (Str × Value), kvs.any (fun kv => kv.1 = k) = false → PySem.valueAt (kvs ++ [(k, v)]) x = if x = k then some v else PySem.valueAt kvs x
  | [], _ => by
    rw [List.nil_append, va_cons]
    by_cases hx : x = k
    · subst hx; simp
    · have hx' : ¬ k = x := fun e => hx e.symm
      simp [hx, hx']
  | kv :: r, h => by
    rw [List.any_cons, Bool.or_eq_false_iff] at h
    rw [List.cons_append, va_cons, va_app k v x r h.2, va_cons]
    have hk : ¬ kv.1 = k := by simpa using h.1
    by_cases hx : x = k
    · subst hx; simp [hk]
    · simp [hx]
theorem va_stored (kvs : List (Str × Value)) (k : Str) (v : Value) (x : Str) : PySem.valueAt (PySem.stored kvs k v) x = if x = k then some v else PySem.valueAt kvs x := by
  unfold PySem.stored
  by_cases h : kvs.any (fun kv => kv.1 = k) = true
  · rw [if_pos h, va_map, if_pos h]
  · rw [if_neg h, va_app _ _ _ _ (by cases q : kvs.any (fun kv => kv.1 = k) with | false => rfl | true => exact absurd q h)]
theorem FrameIn.set {news : Led} {kvs : List (Str × Value)} {φ : Phi} (h : FrameIn news kvs φ) {key : Str} {v : Value} {f : Option Str} (hv : FIn news v f) : FrameIn news (PySem.stored kvs key v) (setPhi φ key f) := fun k => by
  have hk := h k
  unfold setPhi
  rw [va_stored]
  by_cases e : k = key
  · rw [if_pos e, if_pos e]
    exact ⟨v, rfl, hv⟩
  · rw [if_neg e, if_neg e]; exact hk
theorem NamesIn.setVal {kvs : List (Str × Value)} {φ : Phi} (h : NamesIn kvs φ) {key : Str} {t : Tok} : NamesIn (PySem.stored kvs key (.str (Str.ofString "value") t)) (setPhi φ key none) := fun k => by
  have hk := h k
  unfold setPhi
  rw [va_stored]
  by_cases e : k = key
  · rw [if_pos e, if_pos e]
    exact ⟨t, rfl⟩
  · rw [if_neg e, if_neg e]; exact hk
theorem NamesIn.setFn {kvs : List (Str × Value)} {φ : Phi} (h : NamesIn kvs φ) {key nm : Str} {t : Tok} (h1 : nm ≠ Str.ofString "") (h2 : nm ≠ Str.ofString "value") : NamesIn (PySem.stored kvs key (.str nm t)) (setPhi φ key (some nm)) := fun k => by
  have hk := h k
  unfold setPhi
  rw [va_stored]
  by_cases e : k = key
  · rw [if_pos e, if_pos e]
    exact ⟨⟨t, rfl⟩, h1, h2⟩
  · rw [if_neg e, if_neg e]; exact hk

/-- one turn's end: the pair at a is set, the ledger has grown by ex -/
theorem Dyn.set {w : World} {rest : Led} {go qo : Nat → Obj} {φ : Nat → Phi} {n : Nat} (D : Dyn w rest go qo φ n) (ex : Led) {a : Nat} {kv kq : List (Str × Value)} {g' q' : Obj} {φ' : Phi}
    (hg : g'.IsDictOf (PySem.strKind PR w) kv) (hq : q'.IsDictOf (PySem.strKind PR w) kq) (h1 : FrameIn (ex ++ rest) kv φ') (h2 : NamesIn kq φ') (l1 : kv.length ≤ n + 1) (l2 : kq.length ≤ n + 1) (ha : a < 4) (h3 : NmOk (φ a) → NmOk φ') :
    Dyn w (ex ++ rest) (upd go a g') (upd qo a q') (upd φ a φ') (n + 1) := fun i hi => by
  by_cases e : i = a
  · simp only [upd, if_pos e]
    have ⟨_, _, _, _, _, _, _, _, o⟩ := D a ha
    exact ⟨kv, kq, hg, hq, h1, h2, l1, l2, h3 o⟩
  · simp only [upd, if_neg e]
    exact (D.more ex (Nat.le_succ n)) i hi
theorem upd_self {α : Type} (f : Nat → α) (a : Nat) : upd f a (f a) = f := by
  funext i; unfold upd; split
  · next h => rw [h]
  · rfl

/-- what find_method reads -/
theorem envs_in {w : World} {K : Cfg} {rest nx : Led} {lc : Obj} {go qo : Nat → Obj} {φ : Nat → Phi} {n : Nat} (S : Stat K rest) (D : Dyn w rest go qo φ n) (hs : ∀ p ∈ dynL K lc go qo ++ rest, p ∈ nx) {k : Nat} (hk : k < 4) :
    EnvIn w nx (.ref (K.e k)) (chainOf (φ 0) (φ 1) (φ 2) (φ 3) k) := by
  have one : ∀ i, i < 4 → ∀ pv ch, parOf K i = pv → EnvIn w nx pv ch → EnvIn w nx (.ref (K.e i)) (φ i :: ch) := by
    intro i hi pv ch hp hE
    obtain ⟨kv, kq, a, b, c, d, e, f, _⟩ := D i hi
    exact .cons (hs _ (List.mem_append.mpr (.inr (S.inst i hi)))) (hs _ (List.mem_append.mpr (.inr (S.dict i hi)))) (S.fr i hi) (hp ▸ S.par i hi)
      (hs _ (List.mem_append.mpr (.inl (mem_dynL.mpr (.inr ⟨i, hi, .inl rfl⟩))))) (S.sysg i hi) a (c.mono fun p hp => hs p (List.mem_append.mpr (.inr hp))) hE
  have h0 := one 0 (by decide) .none [] rfl .nil
  have h1 := one 1 (by decide) _ _ rfl h0
  have h2 := one 2 (by decide) _ _ rfl h1
  have h3 := one 3 (by decide) .none [] rfl .nil
  have hc : k = 0 ∨ k = 1 ∨ k = 2 ∨ k = 3 := by omega
  rcases hc with rfl | rfl | rfl | rfl
  · exact h0
  · exact h1
  · exact h2
  · exact h3
theorem NmOk.set {φ : Phi} {key nm : Str} (h : NmOk φ) (ho : nmOk nm) : NmOk (setPhi φ key (some nm)) := fun k x e => by
  unfold setPhi at e
  split at e
  · cases e; exact ho
  · exact h k x e
theorem NmOk.setVal {φ : Phi} {key : Str} (h : NmOk φ) : NmOk (setPhi φ key none) := fun k x e => by
  unfold setPhi at e
  split at e
  · cases e
  · exact h k x e
end PS1

section PD2
/-- the kinds of the vector, with the implicit classes -/
def KD (kd : Str) (im : List Str) : Prop := (kd = Str.ofString "integer" ∧ im = [Str.ofString "integer", Str.ofString "numeric"]) ∨ (kd = Str.ofString "double" ∧ im = [Str.ofString "double", Str.ofString "numeric"]) ∨ (kd = Str.ofString "character" ∧ im = [Str.ofString "character"])
def SH (n : Nat) (sh : List Str) : Prop := (n = 2 ∧ sh = [Str.ofString "matrix", Str.ofString "array"]) ∨ (n ≠ 2 ∧ sh = [Str.ofString "array"])
def AllOk (ss : List Str) : Prop := ∀ x ∈ ss, nmOk x
theorem AllOk.cons {x : Str} {ss : List Str} (h : nmOk x) (r : AllOk ss) : AllOk (x :: ss) := fun y hy => by
  rcases List.mem_cons.mp hy with rfl | hy
  · exact h
  · exact r y hy
theorem AllOk.nil : AllOk [] := fun _ h => nomatch h
theorem AllOk.app {a b : List Str} (ha : AllOk a) (hb : AllOk b) : AllOk (a ++ b) := fun y hy => by
  rcases List.mem_append.mp hy with hy | hy
  · exact ha y hy
  · exact hb y hy
theorem KD.ok {kd : Str} {im : List Str} (h : KD kd im) : AllOk im := by
  rcases h with ⟨_, rfl⟩ | ⟨_, rfl⟩ | ⟨_, rfl⟩
  · exact .cons (by unfold nmOk; decide +kernel) (.cons (by unfold nmOk; decide +kernel) .nil)
  · exact .cons (by unfold nmOk; decide +kernel) (.cons (by unfold nmOk; decide +kernel) .nil)
  · exact .cons (by unfold nmOk; decide +kernel) .nil
theorem SH.ok {n : Nat} {sh : List Str} (h : SH n sh) : AllOk sh := by
  rcases h with ⟨_, rfl⟩ | ⟨_, rfl⟩
  · exact .cons (by unfold nmOk; decide +kernel) (.cons (by unfold nmOk; decide +kernel) .nil)
  · exact .cons (by unfold nmOk; decide +kernel) .nil
theorem KD.len {kd : Str} {im : List Str} (h : KD kd im) : im.length ≤ 2 := by
  rcases h with ⟨_, rfl⟩ | ⟨_, rfl⟩ | ⟨_, rfl⟩ <;> exact Nat.le_of_ble_eq_true rfl
theorem SH.len {n : Nat} {sh : List Str} (h : SH n sh) : sh.length ≤ 2 := by
  rcases h with ⟨_, rfl⟩ | ⟨_, rfl⟩ <;> exact Nat.le_of_ble_eq_true rfl
theorem strs_canLay : ∀ {ss : List Str}, AllOk ss → PyData.canLayAll0 (ss.map .str) = true
  | [], _ => rfl
  | x :: r, h => by
    have h1 : PyData.strOk x = true := h x (.head _)
    simp [PyData.canLayAll0, PyData.canLay0, h1, strs_canLay (ss := r) fun y hy => h y (.tail _ hy)]
theorem strs_depth : ∀ ss : List Str, PyData.depthAll (ss.map .str) = 0
  | [] => rfl
  | _ :: r => by simp [PyData.depthAll, PyData.depth, strs_depth r]
theorem strs_shaped {ss : List Str} (h : AllOk ss) : SeqAt.shaped (.list (ss.map .str)) = true := by
  simp [SeqAt.shaped, PyData.canLay0, PyData.depth, strs_canLay h, strs_depth]
section
variable {prog : Program} {w : World} {A : Around} {E : Value → Shared → Prop} {s : Shared} {h₀ : Heap} {L x y : Addr} {m : Str → Option Value} {news : List (Addr × Obj)} {vs us : List Value} {n k : Nat} {ss ts : List Str} {Q : Value → Shared → Prop}
theorem strs_eq (N : News h₀ L s.heap news) (m1 : (x, listOf vs.toArray n) ∈ news) (m2 : (y, listOf us.toArray k) ∈ news) (h1 : StrsAre vs ss) (h2 : StrsAre us ss) (hok : AllOk ss) (hu : A.units + 64 < cLine) (h : Q (.bool true) s) :
    wpAny (model prog w) A (compareOp .Eq (.ref x) (.ref y)) Q E s := by
  have sh := strs_shaped hok
  refine eq_dataH (reads_list_at (News.get N m1) rfl rfl (h1.reads _)) (reads_list_at (News.get N m2) rfl rfl (h2.reads _)) sh sh hu ?_
  rw [SeqAt.eqv_refl _ (SeqAt.canLay_of_shaped sh)]
  exact h
theorem strs_ne (N : News h₀ L s.heap news) (m1 : (x, listOf vs.toArray n) ∈ news) (m2 : (y, listOf us.toArray k) ∈ news) (h1 : StrsAre vs ss) (h2 : StrsAre us ss) (hok : AllOk ss) (hu : A.units + 64 < cLine) (h : Q (.bool false) s) :
    wpAny (model prog w) A (compareOp .NotEq (.ref x) (.ref y)) Q E s := by
  have sh := strs_shaped hok
  refine ne_dataH (reads_list_at (News.get N m1) rfl rfl (h1.reads _)) (reads_list_at (News.get N m2) rfl rfl (h2.reads _)) sh sh hu ?_
  rw [SeqAt.eqv_refl _ (SeqAt.canLay_of_shaped sh)]
  exact h
theorem strs_ne_nil (N : News h₀ L s.heap news) (m1 : (x, listOf vs.toArray n) ∈ news) (m2 : (y, listOf #[] k) ∈ news) (h1 : StrsAre vs ss) (hok : AllOk ss) (hu : A.units + 64 < cLine) (h : Q (.bool (decide (ss ≠ []))) s) :
    wpAny (model prog w) A (compareOp .NotEq (.ref x) (.ref y)) Q E s := by
  have sh := strs_shaped hok
  have sh0 := strs_shaped AllOk.nil
  refine ne_dataH (reads_list_at (News.get N m1) rfl rfl (h1.reads _)) (reads_list_at (News.get N m2) rfl rfl .nil) sh sh0 hu ?_
  cases ss with
  | nil => exact h
  | cons a r => exact h
theorem strs_add (F : Fr h₀ L s.heap m) (N : News h₀ L s.heap news) (m1 : (x, listOf vs.toArray n) ∈ news) (m2 : (y, listOf us.toArray k) ∈ news) (h1 : StrsAre vs ss) (h2 : StrsAre us ts) (l1 : ss.length ≤ 100) (l2 : ts.length ≤ 100)
    (h : ∀ D ws h', (∀ p ∈ news, p.1 < D) → StrsAre ws (ss ++ ts) → Fr h₀ L h' m → News h₀ L h' ((D, listOf (List.toArray ws) 0) :: news) → Q (.ref D) { s with heap := h' }) :
    wpAny (model prog w) A (binaryOp .Add (.ref x) (.ref y)) Q E s := by
  refine kmk_add_lit F N ⟨_, (N _ m1).1, rfl, n, rfl⟩ ⟨_, (N _ m2).1, rfl, k, rfl⟩ rfl (fun D h' F' N' lt => h D (vs ++ us) h' lt (h1.append' h2) F' (by simpa using N')) ?_
  have e1 := h1.length
  have e2 := h2.length
  rw [sizeLine_eq]
  show vs.length + us.length ≤ _
  omega
end
def kdOf (k : Int) : Str := if k = 0 then Str.ofString "integer" else if k = 1 then Str.ofString "double" else Str.ofString "character"
def imOf (k : Int) : List Str := if k = 0 then [Str.ofString "integer", Str.ofString "numeric"] else if k = 1 then [Str.ofString "double", Str.ofString "numeric"] else [Str.ofString "character"]
def shOf (k : Int) : List Str := if k = 0 then [Str.ofString "matrix", Str.ofString "array"] else [Str.ofString "array"]
theorem kd_of (k : Int) : KD (kdOf k) (imOf k) := by
  unfold kdOf imOf
  by_cases h0 : k = 0
  · rw [if_pos h0, if_pos h0]; exact .inl ⟨rfl, rfl⟩
  · rw [if_neg h0, if_neg h0]
    by_cases h1 : k = 1
    · rw [if_pos h1, if_pos h1]; exact .inr (.inl ⟨rfl, rfl⟩)
    · rw [if_neg h1, if_neg h1]; exact .inr (.inr ⟨rfl, rfl⟩)
theorem three {k : Int} (h0 : 0 ≤ k) (h3 : k < 3) : k = 0 ∨ k = 1 ∨ k = 2 := by omega
theorem kind_at {a b c : Tok} {k : Int} {v : Value} (h0 : 0 ≤ k) (h3 : k < 3) (h : [Value.str (Str.ofString "integer") a, Value.str (Str.ofString "double") b, Value.str (Str.ofString "character") c][k.toNat]? = some v) : ∃ t, v = .str (kdOf k) t := by
  rcases three h0 h3 with rfl | rfl | rfl
  · cases h; exact ⟨_, rfl⟩
  · cases h; exact ⟨_, rfl⟩
  · cases h; exact ⟨_, rfl⟩
theorem mul_none {prog : Program} {w : World} {A : Around} {E : Value → Shared → Prop} {s : Shared} {h₀ : Heap} {L l : Addr} {m : Str → Option Value} {news : List (Addr × Obj)} {n : Nat} {u : Tok} {Q : Value → Shared → Prop}
    (F : Fr h₀ L s.heap m) (N : News h₀ L s.heap news) (hm : (l, listOf #[.none] n) ∈ news)
    (h : ∀ D o h', (∀ p ∈ news, p.1 < D) → Fr h₀ L h' m → News h₀ L h' ((D, o) :: news) → Q (.ref D) { s with heap := h' }) :
    wpAny (model prog w) A (binaryOp .Mult (.ref l) (.int 4 u)) Q E s :=
  mul_list F N (N _ hm).1 (by decide) (by decide) (by decide) fun h' F' N' => h _ _ h' (fun p hp => Heap.lt_size (N p hp).1) F' N'
theorem at3 {a b c v : Value} {k : Int} (h0 : 0 ≤ k) (h3 : k < 3) (h : [a, b, c][k.toNat]? = some v) : (k = 0 ∧ v = a) ∨ (k = 1 ∧ v = b) ∨ (k = 2 ∧ v = c) := by
  rcases three h0 h3 with rfl | rfl | rfl
  · cases h; exact .inl ⟨rfl, rfl⟩
  · cases h; exact .inr (.inl ⟨rfl, rfl⟩)
  · cases h; exact .inr (.inr ⟨rfl, rfl⟩)
section
variable {h₀ h : Heap} {L : Addr} {a b c d e f j1 j2 j3 : Addr × Obj} {base : List (Addr × Obj)}
theorem sub1 (N : News h₀ L h (a :: b :: c :: d :: base)) : News h₀ L h (d :: base) := fun p hp => N p (.tail _ (.tail _ (.tail _ hp)))
theorem sub2 (N : News h₀ L h (a :: b :: c :: d :: base)) : News h₀ L h (c :: base) := fun p hp => N p (by
  rcases List.mem_cons.mp hp with rfl | hp
  · exact .tail _ (.tail _ (.head _))
  exact .tail _ (.tail _ (.tail _ (.tail _ hp))))
theorem sub3 (N : News h₀ L h (a :: b :: c :: d :: base)) : News h₀ L h (b :: base) := fun p hp => N p (by
  rcases List.mem_cons.mp hp with rfl | hp
  · exact .tail _ (.head _)
  exact .tail _ (.tail _ (.tail _ (.tail _ hp))))
theorem drop9 (N : News h₀ L h (j1 :: a :: b :: c :: d :: e :: j2 :: j3 :: f :: base)) : News h₀ L h (j1 :: a :: b :: c :: d :: e :: base) := fun p hp => N p (by
  iterate 6
    rcases List.mem_cons.mp hp with rfl | hp
    · simp
  simp [hp])
end
/-- a written table of three lists: the one that is taken, the others dropped -/
theorem menu_im {h₀ h : Heap} {L T x y z : Addr} {tb : Obj} {rest : List (Addr × Obj)} {k : Int} {v : Value} {a1 a2 b1 b2 c1 : Tok} {n1 n2 n3 : Nat}
    (N : News h₀ L h ((T, tb) :: (z, listOf #[.str (Str.ofString "character") c1] n3) :: (y, listOf #[.str (Str.ofString "double") b1, .str (Str.ofString "numeric") b2] n2) :: (x, listOf #[.str (Str.ofString "integer") a1, .str (Str.ofString "numeric") a2] n1) :: rest))
    (h0 : 0 ≤ k) (h3 : k < 3) (hv : [Value.ref x, .ref y, .ref z][k.toNat]? = some v) (lx : AllLt x rest) (ly : AllLt y ((x, tb) :: rest)) (lz : AllLt z ((y, tb) :: (x, tb) :: rest)) :
    ∃ l vs n, v = .ref l ∧ AllLt l rest ∧ News h₀ L h ((l, listOf (List.toArray vs) n) :: rest) ∧ StrsAre vs (imOf k) := by
  rcases at3 h0 h3 hv with ⟨rfl, rfl⟩ | ⟨rfl, rfl⟩ | ⟨rfl, rfl⟩
  · exact ⟨_, _, _, rfl, lx, sub1 N, .cons _ _ (.cons _ _ .nil)⟩
  · refine ⟨_, _, _, rfl, ly.2, sub2 N, .cons _ _ (.cons _ _ .nil)⟩
  · refine ⟨_, _, _, rfl, lz.2.2, sub3 N, .cons _ _ .nil⟩
theorem menu_sh {h₀ h : Heap} {L T x y z : Addr} {tb : Obj} {rest : List (Addr × Obj)} {k : Int} {v : Value} {a1 a2 b1 c1 : Tok} {n1 n2 n3 : Nat}
    (N : News h₀ L h ((T, tb) :: (z, listOf #[.str (Str.ofString "array") c1] n3) :: (y, listOf #[.str (Str.ofString "array") b1] n2) :: (x, listOf #[.str (Str.ofString "matrix") a1, .str (Str.ofString "array") a2] n1) :: rest))
    (h0 : 0 ≤ k) (h3 : k < 3) (hv : [Value.ref x, .ref y, .ref z][k.toNat]? = some v) (lx : AllLt x rest) (ly : AllLt y ((x, tb) :: rest)) (lz : AllLt z ((y, tb) :: (x, tb) :: rest)) :
    ∃ l vs n, v = .ref l ∧ AllLt l rest ∧ News h₀ L h ((l, listOf (List.toArray vs) n) :: rest) ∧ StrsAre vs (shOf k) := by
  rcases at3 h0 h3 hv with ⟨rfl, rfl⟩ | ⟨rfl, rfl⟩ | ⟨rfl, rfl⟩
  · exact ⟨_, _, _, rfl, lx, sub1 N, .cons _ _ (.cons _ _ .nil)⟩
  · refine ⟨_, _, _, rfl, ly.2, sub2 N, .cons _ _ .nil⟩
  · refine ⟨_, _, _, rfl, lz.2.2, sub3 N, .cons _ _ .nil⟩
theorem menu_dim {h₀ h : Heap} {L T x y z : Addr} {tb : Obj} {rest : List (Addr × Obj)} {k : Int} {v a1 a2 b1 c1 c2 c3 : Value} {n1 n2 n3 : Nat}
    (N : News h₀ L h ((T, tb) :: (z, listOf #[c1, c2, c3] n3) :: (y, listOf #[b1] n2) :: (x, listOf #[a1, a2] n1) :: rest))
    (h0 : 0 ≤ k) (h3 : k < 3) (hv : [Value.ref x, .ref y, .ref z][k.toNat]? = some v) (lx : AllLt x rest) (ly : AllLt y ((x, tb) :: rest)) (lz : AllLt z ((y, tb) :: (x, tb) :: rest)) :
    ∃ l vs n, v = .ref l ∧ AllLt l rest ∧ News h₀ L h ((l, listOf (List.toArray vs) n) :: rest) ∧ vs.length ≤ 3 ∧ SH vs.length (shOf k) := by
  rcases at3 h0 h3 hv with ⟨rfl, rfl⟩ | ⟨rfl, rfl⟩ | ⟨rfl, rfl⟩
  · exact ⟨_, _, _, rfl, lx, sub1 N, Nat.le_of_ble_eq_true rfl, .inl ⟨rfl, rfl⟩⟩
  · refine ⟨_, [b1], _, rfl, ly.2, sub2 N, Nat.le_of_ble_eq_true rfl, .inr ⟨by show (1 : Nat) ≠ 2; decide, rfl⟩⟩
  · refine ⟨_, [c1, c2, c3], _, rfl, lz.2.2, sub3 N, Nat.le_of_ble_eq_true rfl, .inr ⟨by show (3 : Nat) ≠ 2; decide, rfl⟩⟩
theorem drop_at0 {h₀ h : Heap} {L : Addr} {a : Addr × Obj} {base : List (Addr × Obj)} (N : News h₀ L h (a :: base)) : News h₀ L h base := fun p hp => N p (.tail _ hp)
end PD2

section PS2
def pick4 {α : Type} (a b c d : α) : Nat → α := fun i => if i = 0 then a else if i = 1 then b else if i = 2 then c else d
theorem four {i : Nat} (h : i < 4) : i = 0 ∨ i = 1 ∨ i = 2 ∨ i = 3 := by omega
theorem mem_at {α : Type} {l : List α} {x : α} (n : Nat) (h : l[n]? = some x) : x ∈ l := List.mem_of_getElem? h
theorem mono_of (l : List Nat) (n : Nat) (h : ∀ i, i < n - 1 → l.getD i 0 < l.getD (i + 1) 0) : ∀ i j, i < j → j < n → l.getD i 0 < l.getD j 0 := by
  intro i j
  induction j with
  | zero => intro hij _; exact absurd hij (Nat.not_lt_zero _)
  | succ j ih =>
    intro hij hj
    have h1 := h j (by omega)
    rcases Nat.lt_or_ge i j with hlt | hge
    · exact Nat.lt_trans (ih hlt (by omega)) h1
    · have : i = j := by omega
      subst this; exact h1
theorem ne_of_mono {l : List Nat} {n : Nat} (h : ∀ i j, i < j → j < n → l.getD i 0 < l.getD j 0) {i j : Nat} (hij : i ≠ j) (hi : i < n) (hj : j < n) : l.getD i 0 ≠ l.getD j 0 := by
  rcases Nat.lt_or_gt_of_ne hij with hlt | hgt
  · exact Nat.ne_of_lt (h i j hlt hj)
  · exact Nat.ne_of_gt (h j i hgt hi)
theorem setup {w : World} {cl c ol pl fl : Nat} {lc co : Obj} {u0 u1 u2 u3 : Tok} {no np nf : Nat}
  {d0 e0 g0 k0 q0 : Nat} {oq0 ok0 og0 : Obj} {es0 : List DictEntry} {n0 : Nat}
  {d1 e1 g1 k1 q1 : Nat} {oq1 ok1 og1 : Obj} {es1 : List DictEntry} {n1 : Nat}
  {d2 e2 g2 k2 q2 : Nat} {oq2 ok2 og2 : Obj} {es2 : List DictEntry} {n2 : Nat}
  {d3 e3 g3 k3 q3 : Nat} {oq3 ok3 og3 : Obj} {es3 : List DictEntry} {n3 : Nat}
  {h₀ h : Heap} {L : Addr} (N : News h₀ L h ([(q3, oq3), (k3, ok3), (g3, og3), (e3, instObj 138 d3), (d3, dictOf es3 n3), (q2, oq2), (k2, ok2), (g2, og2), (e2, instObj 138 d2), (d2, dictOf es2 n2), (q1, oq1), (k1, ok1), (g1, og1), (e1, instObj 138 d1), (d1, dictOf es1 n1), (q0, oq0), (k0, ok0), (g0, og0), (e0, instObj 138 d0), (d0, dictOf es0 n0), (fl, listOf ((((#[].push (Value.ref q0)).push (Value.ref q1)).push (Value.ref q2)).push (Value.ref q3)) nf), (pl, listOf ((((#[].push (Value.ref e0)).push (Value.ref e1)).push (Value.ref e2)).push (Value.ref e3)) np), (ol, listOf #[.int (-1) u0, .int 0 u1, .int 1 u2, .int (-1) u3] no), (c, lc), (cl, co)] : Led))
  (hlt : cl < c ∧ c < ol ∧ ol < pl ∧ pl < fl ∧ fl < d0 ∧ d0 < e0 ∧ e0 < g0 ∧ g0 < k0 ∧ k0 < q0 ∧ q0 < d1 ∧ d1 < e1 ∧ e1 < g1 ∧ g1 < k1 ∧ k1 < q1 ∧ q1 < d2 ∧ d2 < e2 ∧ e2 < g2 ∧ g2 < k2 ∧ k2 < q2 ∧ q2 < d3 ∧ d3 < e3 ∧ e3 < g3 ∧ g3 < k3 ∧ k3 < q3)
  (cd : co.data = .cell (some (.ref c)))
  (dq0 : oq0.IsDictOf (PySem.strKind PR w) []) (dg0 : og0.IsDictOf (PySem.strKind PR w) []) (sq0 : (q0 == sysModules) = false) (sg0 : (g0 == sysModules) = false) (fr0 : getL (Str.ofString "frame") es0 = some (some (.ref g0))) (par0 : getL (Str.ofString "parent") es0 = some (some (.none)))
  (dq1 : oq1.IsDictOf (PySem.strKind PR w) []) (dg1 : og1.IsDictOf (PySem.strKind PR w) []) (sq1 : (q1 == sysModules) = false) (sg1 : (g1 == sysModules) = false) (fr1 : getL (Str.ofString "frame") es1 = some (some (.ref g1))) (par1 : getL (Str.ofString "parent") es1 = some (some (.ref e0)))
  (dq2 : oq2.IsDictOf (PySem.strKind PR w) []) (dg2 : og2.IsDictOf (PySem.strKind PR w) []) (sq2 : (q2 == sysModules) = false) (sg2 : (g2 == sysModules) = false) (fr2 : getL (Str.ofString "frame") es2 = some (some (.ref g2))) (par2 : getL (Str.ofString "parent") es2 = some (some (.ref e1)))
  (dq3 : oq3.IsDictOf (PySem.strKind PR w) []) (dg3 : og3.IsDictOf (PySem.strKind PR w) []) (sq3 : (q3 == sysModules) = false) (sg3 : (g3 == sysModules) = false) (fr3 : getL (Str.ofString "frame") es3 = some (some (.ref g3))) (par3 : getL (Str.ofString "parent") es3 = some (some (.none)))
  : ∃ (K : Cfg) (rest : Led) (go qo : Nat → Obj), K.c = c ∧ K.cl = cl ∧ K.ol = ol ∧ K.pl = pl ∧ K.fl = fl ∧ Stat K rest ∧ Dyn w rest go qo (fun _ _ => none) 0 ∧ News h₀ L h (dynL K lc go qo ++ rest) := by
  let l : List Nat := [cl, c, ol, pl, fl, d0, e0, g0, k0, q0, d1, e1, g1, k1, q1, d2, e2, g2, k2, q2, d3, e3, g3, k3, q3]
  have hl : ∀ i j, i < j → j < 25 → l.getD i 0 < l.getD j 0 := mono_of l 25 (by
    obtain ⟨h0, h1, h2, h3, h4, h5, h6, h7, h8, h9, h10, h11, h12, h13, h14, h15, h16, h17, h18, h19, h20, h21, h22, h23⟩ := hlt
    intro i hi
    match i, hi with
    | 0, _ => exact h0
    | 1, _ => exact h1
    | 2, _ => exact h2
    | 3, _ => exact h3
    | 4, _ => exact h4
    | 5, _ => exact h5
    | 6, _ => exact h6
    | 7, _ => exact h7
    | 8, _ => exact h8
    | 9, _ => exact h9
    | 10, _ => exact h10
    | 11, _ => exact h11
    | 12, _ => exact h12
    | 13, _ => exact h13
    | 14, _ => exact h14
    | 15, _ => exact h15
    | 16, _ => exact h16
    | 17, _ => exact h17
    | 18, _ => exact h18
    | 19, _ => exact h19
    | 20, _ => exact h20
    | 21, _ => exact h21
    | 22, _ => exact h22
    | 23, _ => exact h23
    | n + 24, h => omega)
  have ne : ∀ i j, i ≠ j → i < 25 → j < 25 → l.getD i 0 ≠ l.getD j 0 := fun i j hij hi hj => ne_of_mono hl hij hi hj
  refine ⟨⟨c, cl, ol, pl, fl, fun i => l.getD (6 + 5 * i) 0, fun i => l.getD (5 + 5 * i) 0, fun i => l.getD (7 + 5 * i) 0, fun i => l.getD (9 + 5 * i) 0, (pick4 es0 es1 es2 es3), (pick4 n0 n1 n2 n3), no, np, nf, co, u0, u1, u2, u3⟩, [(cl, co), (ol, listOf #[.int (-1) u0, .int 0 u1, .int 1 u2, .int (-1) u3] no), (pl, listOf ((((#[].push (Value.ref e0)).push (Value.ref e1)).push (Value.ref e2)).push (Value.ref e3)) np), (fl, listOf ((((#[].push (Value.ref q0)).push (Value.ref q1)).push (Value.ref q2)).push (Value.ref q3)) nf), (e0, instObj 138 d0), (e1, instObj 138 d1), (e2, instObj 138 d2), (e3, instObj 138 d3), (d0, dictOf es0 n0), (d1, dictOf es1 n1), (d2, dictOf es2 n2), (d3, dictOf es3 n3)], (pick4 og0 og1 og2 og3), (pick4 oq0 oq1 oq2 oq3), rfl, rfl, rfl, rfl, rfl, ?_, ?_, ?_⟩
  · refine { cell := mem_at 0 rfl, cellD := cd, ol := mem_at 1 rfl, pl := mem_at 2 rfl, fl := mem_at 3 rfl, inst := fun i hi => ?_, dict := fun i hi => ?_, fr := fun i hi => ?_, par := fun i hi => ?_, sysg := fun i hi => ?_, sysq := fun i hi => ?_, cg := fun i hi => ne (7 + 5 * i) 1 (by omega) (by omega) (by omega), cq := fun i hi => ne (9 + 5 * i) 1 (by omega) (by omega) (by omega), gq := fun i j hi hj => ne (7 + 5 * i) (9 + 5 * j) (by omega) (by omega) (by omega), gg := fun i j hi hj hij => ne (7 + 5 * i) (7 + 5 * j) (by omega) (by omega) (by omega), qq := fun i j hi hj hij => ne (9 + 5 * i) (9 + 5 * j) (by omega) (by omega) (by omega), off := fun p hp => ?_ }
    · rcases four hi with rfl | rfl | rfl | rfl
      · exact mem_at 4 rfl
      · exact mem_at 5 rfl
      · exact mem_at 6 rfl
      · exact mem_at 7 rfl
    · rcases four hi with rfl | rfl | rfl | rfl
      · exact mem_at 8 rfl
      · exact mem_at 9 rfl
      · exact mem_at 10 rfl
      · exact mem_at 11 rfl
    · rcases four hi with rfl | rfl | rfl | rfl
      · exact fr0
      · exact fr1
      · exact fr2
      · exact fr3
    · rcases four hi with rfl | rfl | rfl | rfl
      · exact par0
      · exact par1
      · exact par2
      · exact par3
    · rcases four hi with rfl | rfl | rfl | rfl
      · exact sg0
      · exact sg1
      · exact sg2
      · exact sg3
    · rcases four hi with rfl | rfl | rfl | rfl
      · exact sq0
      · exact sq1
      · exact sq2
      · exact sq3
    · have hn : ∃ n, p.1 = l.getD n 0 ∧ n < 25 ∧ n ≠ 1 ∧ (n < 5 ∨ n % 5 = 0 ∨ n % 5 = 1) := by
        simp only [List.mem_cons, List.mem_nil_iff, or_false] at hp
        rcases hp with rfl | rfl | rfl | rfl | rfl | rfl | rfl | rfl | rfl | rfl | rfl | rfl
        · exact ⟨0, rfl, by decide⟩
        · exact ⟨2, rfl, by decide⟩
        · exact ⟨3, rfl, by decide⟩
        · exact ⟨4, rfl, by decide⟩
        · exact ⟨6, rfl, by decide⟩
        · exact ⟨11, rfl, by decide⟩
        · exact ⟨16, rfl, by decide⟩
        · exact ⟨21, rfl, by decide⟩
        · exact ⟨5, rfl, by decide⟩
        · exact ⟨10, rfl, by decide⟩
        · exact ⟨15, rfl, by decide⟩
        · exact ⟨20, rfl, by decide⟩
      obtain ⟨n, e, hn, h1, h2⟩ := hn
      rw [e]
      exact ⟨ne n 1 h1 hn (by omega), fun i hi => ⟨ne n (7 + 5 * i) (by omega) hn (by omega), ne n (9 + 5 * i) (by omega) hn (by omega)⟩⟩
  · intro i hi
    rcases four hi with rfl | rfl | rfl | rfl
    · exact ⟨[], [], dg0, dq0, fun k => rfl, fun k => rfl, Nat.le_refl _, Nat.le_refl _, fun _ _ e => nomatch e⟩
    · exact ⟨[], [], dg1, dq1, fun k => rfl, fun k => rfl, Nat.le_refl _, Nat.le_refl _, fun _ _ e => nomatch e⟩
    · exact ⟨[], [], dg2, dq2, fun k => rfl, fun k => rfl, Nat.le_refl _, Nat.le_refl _, fun _ _ e => nomatch e⟩
    · exact ⟨[], [], dg3, dq3, fun k => rfl, fun k => rfl, Nat.le_refl _, Nat.le_refl _, fun _ _ e => nomatch e⟩
  · intro p hp
    refine N p ?_
    rcases List.mem_append.mp hp with hp | hp
    · rcases mem_dynL.mp hp with rfl | ⟨i, hi, h⟩
      · exact mem_at 23 rfl
      · rcases four hi with rfl | rfl | rfl | rfl
        · rcases h with rfl | rfl
          · exact mem_at 17 rfl
          · exact mem_at 15 rfl
        · rcases h with rfl | rfl
          · exact mem_at 12 rfl
          · exact mem_at 10 rfl
        · rcases h with rfl | rfl
          · exact mem_at 7 rfl
          · exact mem_at 5 rfl
        · rcases h with rfl | rfl
          · exact mem_at 2 rfl
          · exact mem_at 0 rfl
    · simp only [List.mem_cons, List.mem_nil_iff, or_false] at hp
      rcases hp with rfl | rfl | rfl | rfl | rfl | rfl | rfl | rfl | rfl | rfl | rfl | rfl
      · exact mem_at 24 rfl
      · exact mem_at 22 rfl
      · exact mem_at 21 rfl
      · exact mem_at 20 rfl
      · exact mem_at 18 rfl
      · exact mem_at 13 rfl
      · exact mem_at 8 rfl
      · exact mem_at 3 rfl
      · exact mem_at 19 rfl
      · exact mem_at 14 rfl
      · exact mem_at 9 rfl
      · exact mem_at 4 rfl
theorem dyn_head {K : Cfg} {rest : Led} (S : Stat K rest) (go qo : Nat → Obj) : ∃ ot : Led, (∀ lc, dynL K lc go qo ++ rest = (K.c, lc) :: ot) ∧ (∀ p ∈ ot, p.1 ≠ K.c) ∧ (∀ p ∈ rest, p ∈ ot) := by
  refine ⟨(List.range 4).flatMap (fun i => [(K.g i, go i), (K.q i, qo i)]) ++ rest, fun lc => rfl, fun p hp => ?_, fun p hp => List.mem_append.mpr (.inr hp)⟩
  rcases List.mem_append.mp hp with hp | hp
  · have : p ∈ dynL K (go 0) go qo := .tail _ hp
    obtain ⟨i, hi, hp⟩ := List.mem_flatMap.mp hp
    have hi := List.mem_range.mp hi
    simp only [List.mem_cons, List.mem_nil_iff, or_false] at hp
    rcases hp with rfl | rfl
    · exact S.cg i hi
    · exact S.cq i hi
  · exact (S.off p hp).1
section
variable {prog : Program} {w : World} {A : Around} {h₀ : Heap} {L : Addr} {m : Str → Option Value} {env : Env} {elt : PySem.Expr} {x : Str} {scope : Scope} {cl : List (Str × Addr)} {s : Shared} {S : Led → Prop} {P : Nat → Value → Prop} {Fin : List Value → Led → Prop}
theorem comp_inv {n : Nat} {news : Led} (J : Nat → List Value → Led → Prop) (start : J 0 [] news)
    (turn : ∀ i ys nx v I oI C oC D m₂ h tk (E' : Value → Shared → Prop), i < n → J i ys nx → P i v → LCg.NsObj oC m₂ → m₂ x = some v → Fr h₀ L h m → News h₀ L h ((I, oI) :: (C, oC) :: (D, LCg.lst ys) :: nx) → LCg.Off3 I C D nx → ((@Ne Nat I C) ∧ (@Ne Nat I D) ∧ (@Ne Nat C D)) →
      wpAny (model prog w) A (eval elt (compEnvC scope cl C env)) (LCg.CompEnd h₀ L m { s with heap := h, toks := tk } I oI C oC D (LCg.lst ys) S (fun y news' => J (i + 1) (ys ++ [y]) news')) E' { s with heap := h, toks := tk })
    (fin : ∀ ys nx, J n ys nx → Fin ys nx) : LCg.CompRest prog w A h₀ L m env elt x scope cl s S P Fin n 0 [] news := by
  have key : ∀ (j i : Nat) (ys : List Value) (nx : Led), i + j = n → J i ys nx → LCg.CompRest prog w A h₀ L m env elt x scope cl s S P Fin j i ys nx := by
    intro j
    induction j with
    | zero => intro i ys nx hi hJ; have e : i = n := (by omega); subst e; exact LCg.CompRest.zero (fin _ _ hJ)
    | succ j ih =>
      intro i ys nx hi hJ
      refine LCg.CompRest.succ ?_
      intro v I oI C oC D m₂ h tk E' hv hC hx F N off ne
      refine wpAny_mono (turn i ys nx v I oI C oC D m₂ h tk E' (by omega) hJ hv hC hx F N off ne) (fun y s₂ hq => ?_) fun _ _ e => e
      obtain ⟨h', tk', nw, e, F', N', off', hS, hJ'⟩ := hq
      exact ⟨h', tk', nw, e, F', N', off', hS, ih (i + 1) _ _ (by omega) hJ'⟩
  exact key n 0 [] news (by omega) start
end
end PS2

section PS3
section
variable {prog : Program} {w : World} {A : Around} {E : Value → Shared → Prop} {s s₁ : Shared} {h₀ : Heap} {L : Addr} {m : Str → Option Value} {env : Env} {news : Led}
theorem src_range {elt : PySem.Expr} {x : Str} {scope : Scope} {cl : List (Str × Addr)} {Fin : Shared → List Value → Led → Prop} {r : Addr} {b : Int} {t u v : Tok}
    (hh : A.handled = none) (F : Fr h₀ L s₁.heap m) (N : News h₀ L s₁.heap news) (hr : IsRange s₁.heap r 0 b 1 t u v) (h0 : 0 ≤ b) (h1 : b ≤ 100)
    (h : ∀ g, LCg.CompRest prog w A h₀ L m env elt x scope cl { s₁ with heap := g } (fun _ => True) (fun i v => ∃ t, v = .int (0 + (i : Int)) t) (Fin { s₁ with heap := g }) b.toNat 0 [] news) :
    LCg.CompSrc prog w A h₀ L m env elt x scope cl Fin (.ref r) s₁ :=
  LCg.CompSrc.range hh F N hr (small_one (by omega) (by omega) (by omega) (by omega)) ((rangeSize_nat _ _).trans (by omega)) (by rw [sizeLine_eq]; omega) h
theorem item_any {value slice : PySem.Expr} {l : Addr} {vs : List Value} {n : Nat} {k : Int} {u : Tok} {Q : Value → Shared → Prop}
    (N : News h₀ L s.heap news) (hm : (l, listOf vs.toArray n) ∈ news) (h0 : 0 ≤ k) (hhi : k < 2 ^ 63) (hk : k < vs.length) (h : ∀ v, vs[k.toNat]? = some v → Q v s)
    (hs : subscripted slice false (.ref l) (.int k u) = operate [.ref l, .int k u] (getItem (.ref l) (.int k u)) := by with_unfolding_all rfl) :
    wpAny (model prog w) A (subscriptTail value slice (.ref l) (.int k u)) Q E s := by
  have hx : k.toNat < vs.length := by omega
  exact item_led N hm h0 hhi (List.getElem?_eq_getElem hx) (h _ (List.getElem?_eq_getElem hx)) hs
end
def Letter (c : Str) : Prop := c = Str.ofString "a" ∨ c = Str.ofString "b" ∨ c = Str.ofString "c" ∨ c = Str.ofString "d"
theorem letter_of {a b c d : Tok} {k : Int} {v : Value} (h0 : 0 ≤ k) (h4 : k < 4) (h : [Value.str (Str.ofString "a") a, Value.str (Str.ofString "b") b, Value.str (Str.ofString "c") c, Value.str (Str.ofString "d") d][k.toNat]? = some v) : ∃ s t, v = .str s t ∧ Letter s := by
  have hk : k = 0 ∨ k = 1 ∨ k = 2 ∨ k = 3 := by omega
  rcases hk with rfl | rfl | rfl | rfl
  · cases h; exact ⟨_, _, rfl, .inl rfl⟩
  · cases h; exact ⟨_, _, rfl, .inr (.inl rfl)⟩
  · cases h; exact ⟨_, _, rfl, .inr (.inr (.inl rfl))⟩
  · cases h; exact ⟨_, _, rfl, .inr (.inr (.inr rfl))⟩
theorem place_of {a b c d : Tok} {k : Int} {v : Value} (h0 : 0 ≤ k) (h4 : k < 4) (h : [Value.int 0 a, Value.int 1 b, Value.int 2 c, Value.int 3 d][k.toNat]? = some v) : ∃ s t, v = .int s t ∧ 0 ≤ s ∧ s ≤ 3 := by
  have hk : k = 0 ∨ k = 1 ∨ k = 2 ∨ k = 3 := by omega
  rcases hk with rfl | rfl | rfl | rfl
  · cases h; exact ⟨_, _, rfl, by decide, by decide⟩
  · cases h; exact ⟨_, _, rfl, by decide, by decide⟩
  · cases h; exact ⟨_, _, rfl, by decide, by decide⟩
  · cases h; exact ⟨_, _, rfl, by decide, by decide⟩
theorem letter_len {c : Str} (h : Letter c) : c.length ≤ 50 := by
  rcases h with rfl | rfl | rfl | rfl <;> decide
end PS3

section PS4
def OffK (K : Cfg) (x : Addr) : Prop := x ≠ K.c ∧ ∀ i, i < 4 → x ≠ K.g i ∧ x ≠ K.q i
theorem off1_mem {D : Addr} : ∀ {l : Led}, LCg.Off1 D l → ∀ p ∈ l, p.1 ≠ D
  | [], _ => fun p hp => nomatch hp
  | a :: r, h => fun p hp => by
    rcases List.mem_cons.mp hp with rfl | hp
    · exact h.1
    · exact off1_mem h.2 p hp
theorem allLt_mem {D : Addr} : ∀ {l : Led}, AllLt D l → ∀ p ∈ l, p.1 < D
  | [], _ => fun p hp => nomatch hp
  | a :: r, h => fun p hp => by
    rcases List.mem_cons.mp hp with rfl | hp
    · exact h.1
    · exact allLt_mem h.2 p hp
theorem off_dyn {K : Cfg} {lc : Obj} {go qo : Nat → Obj} {r : Led} {x : Addr} (h : ∀ p ∈ dynL K lc go qo ++ r, p.1 ≠ x) : OffK K x :=
  ⟨fun e => h _ (List.mem_append.mpr (.inl (mem_dynL.mpr (.inl rfl)))) e.symm, fun i hi =>
    ⟨fun e => h _ (List.mem_append.mpr (.inl (mem_dynL.mpr (.inr ⟨i, hi, .inl rfl⟩)))) e.symm, fun e => h _ (List.mem_append.mpr (.inl (mem_dynL.mpr (.inr ⟨i, hi, .inr rfl⟩)))) e.symm⟩⟩
theorem off_lt {K : Cfg} {lc : Obj} {go qo : Nat → Obj} {r : Led} {x : Addr} (h : ∀ p ∈ dynL K lc go qo ++ r, p.1 < x) : OffK K x := off_dyn fun p hp => Nat.ne_of_lt (h p hp)
theorem off_head {K : Cfg} {lc : Obj} {go qo : Nat → Obj} {r ot : Led} {x : Addr} (hot : ∀ lc, dynL K lc go qo ++ r = (K.c, lc) :: ot) (hc : K.c ≠ x) (h : ∀ p ∈ ot, p.1 ≠ x) : OffK K x := by
  refine off_dyn (lc := lc) (go := go) (qo := qo) (r := r) fun p hp => ?_
  rw [hot] at hp
  rcases List.mem_cons.mp hp with rfl | hp
  · exact hc
  · exact h p hp

def AInv (w : World) (K : Cfg) (rest0 : Led) (kn : List (Str × Value)) (T : Nat) (m : Str → Option Value) (nx : Led) : Prop :=
  ∃ vs ns n go qo φ ex tc tt, nx = dynL K (listOf (List.toArray vs) n) go qo ++ (ex ++ rest0) ∧ IntsAre vs ns ∧ vs.length ≤ 100 ∧ Stat K (ex ++ rest0) ∧ Dyn w (ex ++ rest0) go qo φ T ∧ 0 ≤ tc ∧ tc ≤ (T : Int) ∧ Knows m ((Str.ofString "turn_at", .int tc tt) :: kn)

theorem AInv.next {w : World} {K : Cfg} {rest0 ex ex2 : Led} {go qo : Nat → Obj} {φ : Nat → Phi} {T a : Nat} {g' q' : Obj} {kv kq : List (Str × Value)} {φ' : Phi} {vs : List Value} {ns : List Int} {n : Nat} {tc : Int} {tt : Tok} {m : Str → Option Value} {kn : List (Str × Value)}
    (S : Stat K (ex ++ rest0)) (D : Dyn w (ex ++ rest0) go qo φ T) (hex : ∀ p ∈ ex2, OffK K p.1) (hg : g'.IsDictOf (PySem.strKind PR w) kv) (hq : q'.IsDictOf (PySem.strKind PR w) kq)
    (h1 : FrameIn (ex2 ++ (ex ++ rest0)) kv φ') (h2 : NamesIn kq φ') (l1 : kv.length ≤ T + 1) (l2 : kq.length ≤ T + 1) (ha : a < 4) (h3 : NmOk (φ a) → NmOk φ') (hI : IntsAre vs ns) (hz : vs.length ≤ 100) (t0 : 0 ≤ tc) (t1 : tc ≤ (T : Int) + 1)
    (hk : Knows m ((Str.ofString "turn_at", .int tc tt) :: kn)) : AInv w K rest0 kn (T + 1) m (dynL K (listOf (List.toArray vs) n) (upd go a g') (upd qo a q') ++ (ex2 ++ (ex ++ rest0))) := by
  refine ⟨vs, ns, n, upd go a g', upd qo a q', upd φ a φ', ex2 ++ ex, tc, tt, by rw [List.append_assoc], hI, hz, ?_, ?_, t0, by omega, hk⟩
  · rw [List.append_assoc]; exact S.more ex2 hex
  · rw [List.append_assoc]; exact D.set ex2 hg hq h1 h2 l1 l2 ha h3
theorem AInv.same {w : World} {K : Cfg} {rest0 ex : Led} {go qo : Nat → Obj} {φ : Nat → Phi} {T : Nat} {vs : List Value} {ns : List Int} {n : Nat} {tc : Int} {tt : Tok} {m : Str → Option Value} {kn : List (Str × Value)}
    (S : Stat K (ex ++ rest0)) (D : Dyn w (ex ++ rest0) go qo φ T) (hI : IntsAre vs ns) (hz : vs.length ≤ 100) (t0 : 0 ≤ tc) (t1 : tc ≤ (T : Int) + 1)
    (hk : Knows m ((Str.ofString "turn_at", .int tc tt) :: kn)) : AInv w K rest0 kn (T + 1) m (dynL K (listOf (List.toArray vs) n) go qo ++ (ex ++ rest0)) :=
  ⟨vs, ns, n, go, qo, φ, ex, tc, tt, rfl, hI, hz, S, D.more [] (Nat.le_succ T), t0, by omega, hk⟩
theorem ats_of {t0 t1 t2 t3 : Tok} {j : Nat} {v : Value} (hj : j < 4) (h : #[Value.int 2 t0, Value.int 1 t1, Value.int 0 t2, Value.int 3 t3][j]? = some v) : ∃ (a : Nat) (t : Tok), v = .int (a : Int) t ∧ a < 4 := by
  rcases four hj with rfl | rfl | rfl | rfl
  · cases h; exact ⟨2, _, rfl, by decide⟩
  · cases h; exact ⟨1, _, rfl, by decide⟩
  · cases h; exact ⟨0, _, rfl, by decide⟩
  · cases h; exact ⟨3, _, rfl, by decide⟩
theorem at4 {f : Nat → Addr} {a : Nat} (ha : a < 4) : [Value.ref (f 0), Value.ref (f 1), Value.ref (f 2), Value.ref (f 3)][((a : Nat) : Int).toNat]? = some (.ref (f a)) := by
  rcases four ha with rfl | rfl | rfl | rfl <;> rfl
theorem word_len {c : Str} {i : Nat} (h : theWords[i]? = some c) : c.length ≤ 50 := by
  have hm := List.mem_of_getElem? h
  revert hm
  have : ∀ c ∈ theWords, c.length ≤ 50 := by decide
  exact this c
/-- a turn of the first loop, seen from the place that it writes -/
theorem AInv.open {w : World} {K : Cfg} {rest0 ex pre : Led} {go qo : Nat → Obj} {φ : Nat → Phi} {T a : Nat} (S : Stat K (ex ++ rest0)) (D : Dyn w (ex ++ rest0) go qo φ T) (ha : a < 4) (hpre : ∀ p ∈ pre, OffK K p.1) (lc : Obj) :
    ∃ (g q e d : Addr) (es : List DictEntry) (en np nf : Nat) (pls fls : List Value) (gob qob : Obj) (kv kq : List (Str × Value)) (ot : Led),
      K.g a = g ∧ K.q a = q ∧ (∀ p ∈ (K.c, lc) :: (g, gob) :: (q, qob) :: ot, p ∈ pre ++ (dynL K lc go qo ++ (ex ++ rest0))) ∧ (∀ p ∈ pre, p ∈ ot) ∧ (∀ p ∈ ot, p.1 ≠ K.c) ∧ (∀ p ∈ ot, p.1 ≠ g) ∧ (∀ p ∈ ot, p.1 ≠ q) ∧ (@Ne Nat g K.c) ∧ (@Ne Nat q K.c) ∧ (@Ne Nat g q) ∧
      (K.cl, K.co) ∈ ot ∧ (K.pl, listOf (List.toArray pls) np) ∈ ot ∧ (K.fl, listOf (List.toArray fls) nf) ∈ ot ∧ pls[((a : Nat) : Int).toNat]? = some (.ref e) ∧ fls[((a : Nat) : Int).toNat]? = some (.ref q) ∧
      (e, instObj 138 d) ∈ ot ∧ (d, dictOf es en) ∈ ot ∧ getL (Str.ofString "frame") es = some (some (.ref g)) ∧ (g == sysModules) = false ∧ (q == sysModules) = false ∧
      gob.IsDictOf (PySem.strKind PR w) kv ∧ qob.IsDictOf (PySem.strKind PR w) kq ∧ FrameIn (ex ++ rest0) kv (φ a) ∧ NamesIn kq (φ a) ∧ kv.length ≤ T ∧ kq.length ≤ T ∧ gob = go a ∧ qob = qo a ∧
      ∀ lc' g' q', ∀ p ∈ dynL K lc' (upd go a g') (upd qo a q') ++ (ex ++ rest0), p ∈ (K.c, lc') :: (g, g') :: (q, q') :: ot := by
  obtain ⟨ot, h1, h2, h3, h4, h5, h6, h7⟩ := S.pick pre hpre lc go qo ha
  obtain ⟨kv, kq, a1, a2, a3, a4, a5, a6, _⟩ := D a ha
  exact ⟨K.g a, K.q a, K.e a, K.d a, K.es a, K.en a, K.np, K.nf, _, _, go a, qo a, kv, kq, ot, rfl, rfl, h1, h2, h4, h5, h6, S.cg a ha, S.cq a ha, S.gq a a ha ha, h3 _ S.cell, h3 _ S.pl, h3 _ S.fl, at4 ha, at4 ha,
    h3 _ (S.inst a ha), h3 _ (S.dict a ha), S.fr a ha, S.sysg a ha, S.sysq a ha, a1, a2, a3, a4, a5, a6, rfl, rfl, h7⟩
theorem AInv.mem {w : World} {K : Cfg} {rest0 : Led} {kn : List (Str × Value)} {T : Nat} {m : Str → Option Value} {nx : Led} (h : AInv w K rest0 kn T m nx) {p : Addr × Obj} (hp : p ∈ rest0) : p ∈ nx := by
  obtain ⟨vs, ns, n, go, qo, φ, ex, tc, tt, rfl, _⟩ := h
  exact List.mem_append.mpr (.inr (List.mem_append.mpr (.inr hp)))
theorem AInv.start {w : World} {K : Cfg} {rest ot : Led} {kn : List (Str × Value)} {m : Str → Option Value} {go qo : Nat → Obj} {h₀ h : Heap} {L W D l' : Addr} {oW oD ol : Obj} {vs : List Value} {ns : List Int} {n : Nat} {tt : Tok}
    (N : News h₀ L h ((W, oW) :: (l', ol) :: (D, oD) :: (K.c, listOf (List.toArray vs) n) :: ot)) (F : Fr h₀ L h m) (S : Stat K rest) (Dy : Dyn w rest go qo (fun _ _ => none) 0) (hot : ∀ lc, dynL K lc go qo ++ rest = (K.c, lc) :: ot)
    (off2 : K.c ≠ D ∧ LCg.Off1 D ot) (hW : l' < W ∧ D < W ∧ K.c < W ∧ AllLt W ot) (hI : IntsAre vs ns) (hz : vs.length ≤ 100) (hk : Knows m ((Str.ofString "turn_at", .int 0 tt) :: kn)) :
    ∃ rest0 nx, (W, oW) ∈ rest0 ∧ (D, oD) ∈ rest0 ∧ News h₀ L h nx ∧ AInv w K rest0 kn 0 m nx := by
  have fW : OffK K W := off_head (lc := oW) hot (Nat.ne_of_lt hW.2.2.1) (fun p hp => Nat.ne_of_lt (allLt_mem hW.2.2.2 p hp))
  have fD : OffK K D := off_head (lc := oD) hot off2.1 (off1_mem off2.2)
  have hex : ∀ p ∈ ([(W, oW), (D, oD)] : Led), OffK K p.1 := fun p hp => by
    rcases List.mem_cons.mp hp with rfl | hp
    · exact fW
    · rw [List.mem_singleton.mp hp]; exact fD
  refine ⟨[(W, oW), (D, oD)] ++ rest, dynL K (listOf (List.toArray vs) n) go qo ++ ([] ++ ([(W, oW), (D, oD)] ++ rest)), .head _, .tail _ (.head _), fun p hp => N p ?_, vs, ns, n, go, qo, fun _ _ => none, [], 0, tt, rfl, hI, hz, S.more _ hex, Dy.more _ (Nat.le_refl _), by decide, by decide, hk⟩
  have sub : ∀ p ∈ dynL K (listOf (List.toArray vs) n) go qo ++ rest, p ∈ (K.c, listOf (List.toArray vs) n) :: ot := fun p hp => by rw [← hot]; exact hp
  rcases List.mem_append.mp hp with hp | hp
  · exact .tail _ (.tail _ (.tail _ (sub p (List.mem_append.mpr (.inl hp)))))
  · rcases List.mem_cons.mp hp with rfl | hp
    · exact .head _
    · rcases List.mem_cons.mp hp with rfl | hp
      · exact .tail _ (.tail _ (.head _))
      · exact .tail _ (.tail _ (.tail _ (sub p (List.mem_append.mpr (.inr hp)))))
end PS4

section PS5
def decS (a : Int) : Str := Str.ofString (toString a)
theorem decS_len {a : Int} (h0 : 0 ≤ a) (h1 : a ≤ 40) : (decS a).length ≤ 10 := by
  obtain ⟨n, rfl⟩ := Int.eq_ofNat_of_zero_le h0
  have : ∀ n : Nat, n < 41 → (decS (n : Int)).length ≤ 10 := by decide +kernel
  exact this n (by omega)
theorem small_log {a : Int} (h0 : 0 ≤ a) (h1 : a ≤ 40) : a.natAbs.log2 < 1920 := by
  obtain ⟨n, rfl⟩ := Int.eq_ofNat_of_zero_le h0
  have : ∀ n : Nat, n < 41 → (n : Nat).log2 < 1920 := by decide +kernel
  exact this n (by omega)
theorem str_small {prog : Program} {w : World} {A : Around} {E : Value → Shared → Prop} {s : Shared} {a : Int} {t : Tok} {Q : Value → Shared → Prop} (h0 : 0 ≤ a) (h1 : a ≤ 40)
    (h : ∀ tk, (decS a).length ≤ 10 → Q (.str (decS a) tk) { s with toks := s.toks + 1 }) : wpAny (model prog w) A (call (.type "str") [.int a t]) Q E s :=
  PySem.P.str_of_int (small_log h0 h1) (h _ (decS_len h0 h1))
theorem add_m {a : Int} (h : (decS a).length ≤ 10) : (Str.ofString "m").length + (decS a).length ≤ sizeLine := by
  rw [sizeLine_eq]
  have : (Str.ofString "m").length = 1 := by decide
  omega
theorem m_cps (x : Str) : (Str.ofString "m" ++ x).cps.toList.head? = some 109 := by
  have e : (Str.ofString "m").cps = #[109] := by decide +kernel
  show ((Str.ofString "m").cps ++ x.cps).toList.head? = some 109
  rw [e, Array.toList_append]
  rfl
theorem mname_ne (x : Str) : Str.ofString "m" ++ x ≠ Str.ofString "" ∧ Str.ofString "m" ++ x ≠ Str.ofString "value" := by
  constructor
  · intro e
    have := congrArg (fun s : Str => s.cps.toList.head?) e
    have h2 := m_cps x
    have h3 : (Str.ofString "").cps.toList.head? = none := by decide +kernel
    rw [h2, h3] at this
    cases this
  · intro e
    have := congrArg (fun s : Str => s.cps.toList.head?) e
    have h2 := m_cps x
    have h3 : (Str.ofString "value").cps.toList.head? = some 118 := by decide +kernel
    rw [h2, h3] at this
    cases this
theorem turn_close {w : World} {K : Cfg} {rest0 ex ex2 ot : Led} {kn : List (Str × Value)} {T : Nat} {h₀ h' : Heap} {L I2 D2 I g q : Addr} {it2 it oD2 lc lc' g' q' : Obj} {go qo go' qo' : Nat → Obj} {m' : Str → Option Value} {s₁ : Shared} {tk : Nat}
    (F : Fr h₀ L h' m') (N : News h₀ L h' (ex2 ++ ((K.c, lc') :: (g, g') :: (q, q') :: ot))) (hpre : ∀ p ∈ [(I2, it2), (D2, oD2), (I, it)], p ∈ ot)
    (hback : ∀ p ∈ dynL K lc' go' qo' ++ (ex ++ rest0), p ∈ (K.c, lc') :: (g, g') :: (q, q') :: ot) (hne2 : ∀ p ∈ (D2, oD2) :: (I, it) :: (dynL K lc go qo ++ (ex ++ rest0)), p.1 ≠ I2) (hex2 : ∀ p ∈ ex2, p.1 ≠ I2 ∧ p.1 ≠ I) (hneI : ∀ p ∈ dynL K lc go qo ++ (ex ++ rest0), p.1 ≠ I)
    (hJ : AInv w K rest0 kn T m' (dynL K lc' go' qo' ++ (ex2 ++ (ex ++ rest0)))) :
    GEnd h₀ L I2 it2 (fun m' nx2 => ∃ nx, nx2 = (D2, oD2) :: (I, it) :: nx ∧ (∀ p ∈ nx, p.1 ≠ I) ∧ AInv w K rest0 kn T m' nx) s₁ { s₁ with heap := h', toks := tk } := by
  have R : ∀ p, p ∈ (K.c, lc') :: (g, g') :: (q, q') :: ot → p ∈ ex2 ++ ((K.c, lc') :: (g, g') :: (q, q') :: ot) := fun p hp => List.mem_append.mpr (.inr hp)
  have P : ∀ p, p ∈ ot → p ∈ (K.c, lc') :: (g, g') :: (q, q') :: ot := fun p hp => .tail _ (.tail _ (.tail _ hp))
  have O : OffK K I2 := off_dyn fun p hp => hne2 p (.tail _ (.tail _ hp))
  refine GEnd.intro ((D2, oD2) :: (I, it) :: (dynL K lc' go' qo' ++ (ex2 ++ (ex ++ rest0)))) F N (R _ (P _ (hpre _ (.head _)))) (fun p hp => ?_) (fun p hp => ?_) ⟨_, rfl, fun p hp => ?_, hJ⟩
  · rcases List.mem_cons.mp hp with rfl | hp
    · exact R _ (P _ (hpre _ (.tail _ (.head _))))
    rcases List.mem_cons.mp hp with rfl | hp
    · exact R _ (P _ (hpre _ (.tail _ (.tail _ (.head _)))))
    rcases List.mem_append.mp hp with hp | hp
    · exact R _ (hback p (List.mem_append.mpr (.inl hp)))
    rcases List.mem_append.mp hp with hp | hp
    · exact List.mem_append.mpr (.inl hp)
    · exact R _ (hback p (List.mem_append.mpr (.inr hp)))
  · rcases List.mem_cons.mp hp with rfl | hp
    · exact hne2 (D2, oD2) (.head _)
    rcases List.mem_cons.mp hp with rfl | hp
    · exact hne2 (I, it) (.tail _ (.head _))
    rcases List.mem_append.mp hp with hp | hp
    · rcases mem_dynL.mp hp with rfl | ⟨i, hi, rfl | rfl⟩
      · exact fun e => O.1 e.symm
      · exact fun e => (O.2 i hi).1 e.symm
      · exact fun e => (O.2 i hi).2 e.symm
    rcases List.mem_append.mp hp with hp | hp
    · exact (hex2 p hp).1
    · exact hne2 p (.tail _ (.tail _ (List.mem_append.mpr (.inr hp))))
  · have O : OffK K I := off_dyn hneI
    rcases List.mem_append.mp hp with hp | hp
    · rcases mem_dynL.mp hp with rfl | ⟨i, hi, rfl | rfl⟩
      · exact fun e => O.1 e.symm
      · exact fun e => (O.2 i hi).1 e.symm
      · exact fun e => (O.2 i hi).2 e.symm
    rcases List.mem_append.mp hp with hp | hp
    · exact (hex2 p hp).2
    · exact hneI p (List.mem_append.mpr (.inr hp))
theorem AInv.forget {w : World} {K : Cfg} {rest0 : Led} {kn kn' : List (Str × Value)} {T : Nat} {m : Str → Option Value} {nx : Led} (h : AInv w K rest0 kn T m nx) (hs : ∀ p ∈ kn', p ∈ kn) : AInv w K rest0 kn' T m nx := by
  obtain ⟨vs, ns, n, go, qo, φ, ex, tc, tt, e, h1, h2, h3, h4, h5, h6, hk⟩ := h
  refine ⟨vs, ns, n, go, qo, φ, ex, tc, tt, e, h1, h2, h3, h4, h5, h6, fun p hp => ?_⟩
  rcases List.mem_cons.mp hp with rfl | hp
  · exact hk _ (.head _)
  · exact hk _ (.tail _ (hs _ hp))
theorem stored_le {kv : List (Str × Value)} {k : Str} {v : Value} {T : Nat} (h : kv.length ≤ T) : (PySem.stored kv k v).length ≤ T + 1 := Nat.le_trans (stored_length_le kv k v) (Nat.succ_le_succ h)
theorem FrameIn.more {ex : Led} {news : Led} {kvs : List (Str × Value)} {φ : Phi} (h : FrameIn news kvs φ) : FrameIn (ex ++ news) kvs φ := h.mono fun _ hp => List.mem_append.mpr (.inr hp)
theorem exOff {K : Cfg} {lc : Obj} {go qo : Nat → Obj} {r l : Led} {I2 I y : Addr} {it2 it : Obj} (hb : ∀ p ∈ dynL K lc go qo ++ r, p ∈ l) (hI2 : (I2, it2) ∈ l) (hI : (I, it) ∈ l) (h : ∀ p ∈ l, p.1 < y) : OffK K y ∧ (y ≠ I2 ∧ y ≠ I) :=
  ⟨off_lt fun p hp => h p (hb p hp), Nat.ne_of_gt (h _ hI2), Nat.ne_of_gt (h _ hI)⟩
theorem ex_two {P : Addr → Prop} {x d : Addr} {ox od : Obj} (h1 : P x) (h2 : P d) : ∀ p ∈ ([(x, ox), (d, od)] : Led), P p.1 := fun p hp => by
  rcases List.mem_cons.mp hp with rfl | hp
  · exact h1
  · rw [List.mem_singleton.mp hp]; exact h2
theorem ex_three {P : Addr → Prop} {x d l : Addr} {ox od ol : Obj} (h1 : P x) (h2 : P d) (h3 : P l) : ∀ p ∈ ([(x, ox), (d, od), (l, ol)] : Led), P p.1 := fun p hp => by
  rcases List.mem_cons.mp hp with rfl | hp
  · exact h1
  · exact ex_two h2 h3 p hp
theorem decS_ok {a : Int} (h0 : 0 ≤ a) (h1 : a ≤ 40) : nmOk (Str.ofString "m" ++ decS a) := by
  obtain ⟨n, rfl⟩ := Int.eq_ofNat_of_zero_le h0
  have : ∀ n : Nat, n < 41 → (Str.ofString "m" ++ decS (n : Int)).cps.all (· < 0x110000) = true := by decide +kernel
  exact this n (by omega)
end PS5

section PS6
/-- what stands when the frames are filled -/
structure Ready (w : World) (K : Cfg) (nx : Led) (φ : Nat → Phi) (qo : Nat → Obj) : Prop where
  env : ∀ k, k < 4 → EnvIn w nx (.ref (K.e k)) (chainOf (φ 0) (φ 1) (φ 2) (φ 3) (k : Int))
  ol : (K.ol, listOf #[.int (-1) K.u0, .int 0 K.u1, .int 1 K.u2, .int (-1) K.u3] K.no) ∈ nx
  pl : (K.pl, listOf #[.ref (K.e 0), .ref (K.e 1), .ref (K.e 2), .ref (K.e 3)] K.np) ∈ nx
  fl : (K.fl, listOf #[.ref (K.q 0), .ref (K.q 1), .ref (K.q 2), .ref (K.q 3)] K.nf) ∈ nx
  q : ∀ i, i < 4 → (K.q i, qo i) ∈ nx
  iq : ∀ i, i < 4 → ∃ kq, (qo i).IsDictOf (PySem.strKind PR w) kq ∧ NamesIn kq (φ i) ∧ NmOk (φ i)
  sysq : ∀ i, i < 4 → (K.q i == sysModules) = false
theorem Ready.mono {w : World} {K : Cfg} {nx nx' : Led} {φ : Nat → Phi} {qo : Nat → Obj} (R : Ready w K nx φ qo) (hs : ∀ p ∈ nx, p ∈ nx') : Ready w K nx' φ qo where
  env k hk := (R.env k hk).mono hs
  ol := hs _ R.ol
  pl := hs _ R.pl
  fl := hs _ R.fl
  q i hi := hs _ (R.q i hi)
  iq := R.iq
  sysq := R.sysq
theorem AInv.ready {w : World} {K : Cfg} {rest0 : Led} {kn : List (Str × Value)} {T : Nat} {m : Str → Option Value} {nx : Led} (h : AInv w K rest0 kn T m nx) : ∃ φ qo, Ready w K nx φ qo ∧ Knows m kn ∧ ∀ p ∈ rest0, p ∈ nx := by
  have hm := fun p hp => AInv.mem (p := p) h hp
  obtain ⟨vs, ns, n, go, qo, φ, ex, tc, tt, rfl, hI, hz, S, D, t0, t1, hk⟩ := h
  have R : ∀ p, p ∈ ex ++ rest0 → p ∈ dynL K (listOf (List.toArray vs) n) go qo ++ (ex ++ rest0) := fun p hp => List.mem_append.mpr (.inr hp)
  refine ⟨φ, qo, ⟨fun k hk => envs_in S D (fun p hp => hp) hk, R _ S.ol, R _ S.pl, R _ S.fl, fun i hi => List.mem_append.mpr (.inl (mem_dynL.mpr (.inr ⟨i, hi, .inr rfl⟩))), fun i hi => ?_, S.sysq⟩, fun p hp => hk p (.tail _ hp), hm⟩
  obtain ⟨kv, kq, a, b, c, d, e, f, o⟩ := D i hi
  exact ⟨kq, b, d, o⟩

theorem plain_R {w : World} {dp un : Nat} {gd : Option (List Code)} {cn : Str} {cs : Scope} {a : Addr} {ccd : Value} {cl : List (Str × Addr)} {outer : List Env} {A₀ : Around} {base h₀ : Heap} {L : Addr} {m : Str → Option Value} {s : Shared}
  {p : Program} {loose : List Str} {mean : ExcName → Option Value} {mg mb : Str → Option Value} {news nx : Led} {key : Str} {kt at' : Tok} {Q E : Value → Shared → Prop} {K : Cfg} {φ : Nat → Phi} {qo : Nat → Obj} {k : Int}
  (B : Below A₀ base outer h₀) (F : Fr h₀ L s.heap m) (X : (hd.heap_39 w.params).In h₀) (N : News h₀ L s.heap news) (T : Top p loose mean mg mb h₀) (hk : cs.kind = .function) (hd : dp + 2 < recursionLimit) (hu : un + 16 < cLine)
  (R : Ready w K nx φ qo) (hs : ∀ p ∈ nx, p ∈ news) (hk0 : 0 ≤ k) (hk3 : k ≤ 3)
  (ret : ∀ t news' h' tk', (∀ p ∈ news, p ∈ news') → Fr h₀ L h' m → News h₀ L h' news' → Q (.str ((findS (chainOf (φ 0) (φ 1) (φ 2) (φ 3) k) key).getD (Str.ofString "")) t) {s with heap := h', toks := tk'}) :
  wpAny (model PR w) (ktrTop dp un gd cn cs L a ccd cl outer) (call (.ref 212) [.ref K.fl, .ref K.ol, .int k at', .str key kt]) Q E s := by
  obtain ⟨v0, i0, n0, _⟩ := R.iq 0 (by decide)
  obtain ⟨v1, i1, n1, _⟩ := R.iq 1 (by decide)
  obtain ⟨v2, i2, n2, _⟩ := R.iq 2 (by decide)
  obtain ⟨v3, i3, n3, _⟩ := R.iq 3 (by decide)
  exact plain_ok B F X N T hk hd hu (hs _ R.fl) (hs _ R.ol) (hs _ (R.q 0 (by decide))) (hs _ (R.q 1 (by decide))) (hs _ (R.q 2 (by decide))) (hs _ (R.q 3 (by decide))) i0 i1 i2 i3
    (R.sysq 0 (by decide)) (R.sysq 1 (by decide)) (R.sysq 2 (by decide)) (R.sysq 3 (by decide)) n0 n1 n2 n3 hk0 hk3 ret

theorem word_split {i : Nat} {key : Str} (h : theWords[i]? = some key) : ∃ hd tl, Txt.split key (Str.ofString ".") = [hd, tl] ∧ hd ++ Str.ofString "." ++ tl = key ∧ hd.length ≤ 50 ∧ tl.length ≤ 50 := by
  have hm := List.mem_of_getElem? h
  simp only [theWords, List.mem_cons, List.mem_nil_iff, or_false] at hm
  rcases hm with rfl | rfl | rfl | rfl | rfl | rfl | rfl | rfl
  · exact ⟨Str.ofString "draw", Str.ofString "a", by decide +kernel, by decide +kernel, by decide +kernel, by decide +kernel⟩
  · exact ⟨Str.ofString "draw", Str.ofString "b", by decide +kernel, by decide +kernel, by decide +kernel, by decide +kernel⟩
  · exact ⟨Str.ofString "draw", Str.ofString "c", by decide +kernel, by decide +kernel, by decide +kernel, by decide +kernel⟩
  · exact ⟨Str.ofString "draw", Str.ofString "default", by decide +kernel, by decide +kernel, by decide +kernel, by decide +kernel⟩
  · exact ⟨Str.ofString "Shapes", Str.ofString "a", by decide +kernel, by decide +kernel, by decide +kernel, by decide +kernel⟩
  · exact ⟨Str.ofString "Shapes", Str.ofString "b", by decide +kernel, by decide +kernel, by decide +kernel, by decide +kernel⟩
  · exact ⟨Str.ofString "Shapes", Str.ofString "c", by decide +kernel, by decide +kernel, by decide +kernel, by decide +kernel⟩
  · exact ⟨Str.ofString "Shapes", Str.ofString "default", by decide +kernel, by decide +kernel, by decide +kernel, by decide +kernel⟩
section
variable {prog : Program} {w : World} {A : Around} {E : Value → Shared → Prop} {s : Shared} {h₀ : Heap} {L : Addr} {m : Str → Option Value} {news : Led} {Q : Value → Shared → Prop}
theorem split_two {x hd tl : Str} {t u : Tok} (hF : Fr h₀ L s.heap m) (hN : News h₀ L s.heap news) (hx : Txt.split x (Str.ofString ".") = [hd, tl]) (hl : x.length ≤ 1000)
    (h : ∀ D t1 t2 h' k, (∀ p ∈ news, p.1 < D) → Fr h₀ L h' m → News h₀ L h' ((D, listOf #[.str hd t1, .str tl t2] 0) :: news) → Q (.ref D) { s with heap := h', toks := k }) :
    wpAny (model prog w) A (call (.builtin "str.split") [.str x t, .str (Str.ofString ".") u]) Q E s := by
  refine KSpl.split1 hF hN (by decide) (fun D l h' k e _ F N lt => ?_) (by rw [sizeLine_eq]; omega)
  rw [hx] at e
  obtain ⟨t1, l1, rfl, e1⟩ := KSpl.cons_of e
  obtain ⟨t2, l2, rfl, e2⟩ := KSpl.cons_of e1
  have := KSpl.nil_of e2
  subst this
  exact h D t1 t2 h' k lt F N
end
end PS6

section PS7
theorem cut_val {M : Model} {A : Around} {t : Sem Value} {Q : Value → Shared → Prop} {E : Value → Shared → Prop} {s : Shared} {h₀ : Heap} {L : Addr} {m : Str → Option Value} (F : Fr h₀ L s.heap m) (P : Value → Led → Prop)
    (h : wpAny M A t (fun v s' => Hold (∃ h' tk' nx', s' = { s with heap := h', toks := tk' } ∧ Fr h₀ L h' m ∧ News h₀ L h' nx' ∧ P v nx')) E s)
    (go : ∀ v h' tk' nx', Fr h₀ L h' m → News h₀ L h' nx' → P v nx' → Q v { s with heap := h', toks := tk' }) : wpAny M A t Q E s :=
  wpAny_mono h (fun v s' hq => by obtain ⟨h', tk', nx', rfl, F, N, p⟩ := hq; exact go v h' tk' nx' F N p) fun _ _ e => e
def headsOf (b : Bool) : List Str := if b then [Str.ofString "draw", Str.ofString "Shapes"] else [Str.ofString "draw"]
def groupOf (b : Bool) : Str := if b then Str.ofString "Shapes" else Str.ofString ""
theorem heads_ok {b : Bool} {h : Str} (hm : h ∈ headsOf b) : h ≠ Str.ofString "" ∧ h.length ≤ 50 := by
  cases b
  · rw [show headsOf false = [Str.ofString "draw"] from rfl, List.mem_singleton] at hm
    subst hm; exact ⟨by decide +kernel, by decide +kernel⟩
  · rw [show headsOf true = [Str.ofString "draw", Str.ofString "Shapes"] from rfl] at hm
    rcases List.mem_cons.mp hm with rfl | hm
    · exact ⟨by decide +kernel, by decide +kernel⟩
    · rw [List.mem_singleton.mp hm]; exact ⟨by decide +kernel, by decide +kernel⟩
theorem map_or' {α β : Type} (f : α → β) (a b : Option α) : (a.or b).map f = (a.map f).or (b.map f) := by cases a <;> rfl
theorem hitC_or (ch : List Phi) (chs : List (List Phi)) (k : Str) : hitC (ch :: chs) k = (findS ch k).or (hitC chs k) := by
  rw [hitC_cons]; cases findS ch k <;> rfl
theorem hitH_or (chs : List (List Phi)) (h : Str) (r : List Str) (c : Str) (hn : h ≠ Str.ofString "") : hitH chs (h :: r) c = (hitC chs (h ++ Str.ofString "." ++ c)).or (hitH chs r c) := by
  rw [hitH_cons _ _ _ _ hn]; cases hitC chs (h ++ Str.ofString "." ++ c) <;> rfl
theorem hitP_or (chs : List (List Phi)) (heads : List Str) (i : Nat) (c : Str) (r : List Str) : hitP chs heads i (c :: r) = ((hitH chs heads c).map fun nm => (i, nm)).or (hitP chs heads (i + 1) r) := by
  show (match hitH chs heads c with | some nm => some (i, nm) | none => hitP chs heads (i + 1) r) = _
  cases hitH chs heads c <;> rfl
theorem hitP_group (chs : List (List Phi)) (b : Bool) : ∀ (ks : List Str) (i : Nat), hitP chs [Str.ofString "draw", groupOf b] i ks = hitP chs (headsOf b) i ks
  | [], _ => rfl
  | c :: r, i => by
    rw [hitP_or, hitP_or, hitP_group chs b r (i + 1)]
    have : hitH chs [Str.ofString "draw", groupOf b] c = hitH chs (headsOf b) c := by
      cases b
      · show hitH chs [Str.ofString "draw", Str.ofString ""] c = hitH chs [Str.ofString "draw"] c
        rw [hitH_or chs (Str.ofString "draw") [Str.ofString ""] c (by decide +kernel), hitH_or chs (Str.ofString "draw") [] c (by decide +kernel), hitH_skip chs (Str.ofString "") [] c rfl]
      · rfl
    rw [this]
theorem findS_ne : ∀ {chs : List Phi} {k nm : Str}, (∀ φ ∈ chs, ∀ nm, φ k = some (some nm) → nm ≠ Str.ofString "") → findS chs k = some nm → nm ≠ Str.ofString ""
  | [], k, nm, _, h => nomatch h
  | φ :: ch, k, nm, hn, h => by
    have h' : (match φ k with | some (some nm) => some nm | _ => findS ch k) = some nm := h
    cases hφ : φ k with
    | none => rw [hφ] at h'; exact findS_ne (fun φ hp => hn φ (.tail _ hp)) h'
    | some f =>
      cases f with
      | none => rw [hφ] at h'; exact findS_ne (fun φ hp => hn φ (.tail _ hp)) h'
      | some x => rw [hφ] at h'; cases h'; exact hn φ (.head _) _ hφ
theorem Ready.ne {w : World} {K : Cfg} {nx : Led} {φ : Nat → Phi} {qo : Nat → Obj} (R : Ready w K nx φ qo) {k : Int} {key nm : Str} (h : findS (chainOf (φ 0) (φ 1) (φ 2) (φ 3) k) key = some nm) : nm ≠ Str.ofString "" := by
  have one : ∀ i, i < 4 → ∀ nm, φ i key = some (some nm) → nm ≠ Str.ofString "" := fun i hi nm e => by
    obtain ⟨kq, _, n, _⟩ := R.iq i hi
    have := n key
    rw [e] at this
    exact this.2.1
  refine findS_ne (fun ψ hψ nm e => ?_) h
  unfold chainOf at hψ
  (repeat' split at hψ) <;> simp only [List.mem_cons, List.mem_nil_iff, or_false] at hψ
  · subst hψ; exact one 0 (by decide) nm e
  · rcases hψ with rfl | rfl
    · exact one 1 (by decide) nm e
    · exact one 0 (by decide) nm e
  · rcases hψ with rfl | rfl | rfl
    · exact one 2 (by decide) nm e
    · exact one 1 (by decide) nm e
    · exact one 0 (by decide) nm e
  · subst hψ; exact one 3 (by decide) nm e
/-- the law's own «due» -/
def duI : Option (Nat × Str) → Int
  | none => -1
  | some x => (x.1 : Int)
def duS : Option (Nat × Str) → Str
  | none => Str.ofString ""
  | some x => x.2
theorem duI_neg {D : Option (Nat × Str)} : duI D < 0 ↔ D = none := by
  cases D with
  | none => exact ⟨fun _ => rfl, fun _ => by decide⟩
  | some x => exact ⟨fun h => absurd h (by show ¬ (x.1 : Int) < 0; omega), fun h => nomatch h⟩
def stepD (D : Option (Nat × Str)) (i : Nat) (f : Option Str) : Option (Nat × Str) := D.or (f.map fun nm => (i, nm))
theorem stepD_some {i : Nat} {f : Option Str} {D : Option (Nat × Str)} (hD : D = none) (hf : f.getD (Str.ofString "") ≠ Str.ofString "") : duI (stepD D i f) = (i : Int) ∧ duS (stepD D i f) = f.getD (Str.ofString "") := by
  subst hD
  cases f with
  | none => exact absurd rfl hf
  | some x => exact ⟨rfl, rfl⟩
theorem stepD_old {i : Nat} {f : Option Str} {D : Option (Nat × Str)} (hD : D ≠ none) : stepD D i f = D := by
  cases D with
  | none => exact absurd rfl hD
  | some x => rfl
theorem stepD_none {i : Nat} {f : Option Str} {D : Option (Nat × Str)} (hn : ∀ nm, f = some nm → nm ≠ Str.ofString "") (hf : f.getD (Str.ofString "") = Str.ofString "") : stepD D i f = D := by
  cases f with
  | none => cases D <;> rfl
  | some x => exact absurd hf (hn x rfl)
theorem inv_spot {chs : List (List Phi)} {hs ks : List Str} {i : Nat} {c : Str} {D full : Option (Nat × Str)} (hc : ks[i]? = some c) (h : D.or (hitP chs hs i (ks.drop i)) = full) :
    D.or (((hitH chs (hs.drop 0) c).map fun nm => (i, nm)).or (hitP chs hs (i + 1) (ks.drop (i + 1)))) = full := by
  obtain ⟨hlt, e⟩ := List.getElem?_eq_some_iff.mp hc
  rw [List.drop_eq_getElem_cons hlt, e, hitP_or] at h
  exact h
theorem inv_head {chs : List (List Phi)} {hs : List Str} {i j : Nat} {c hh : Str} {D full Z : Option (Nat × Str)} (hc : hs[j]? = some hh) (hn : hh ≠ Str.ofString "") (h : D.or (((hitH chs (hs.drop j) c).map fun nm => (i, nm)).or Z) = full) :
    D.or (((hitC (chs.drop 0) (hh ++ Str.ofString "." ++ c)).map fun nm => (i, nm)).or (((hitH chs (hs.drop (j + 1)) c).map fun nm => (i, nm)).or Z)) = full := by
  obtain ⟨hlt, e⟩ := List.getElem?_eq_some_iff.mp hc
  rw [List.drop_eq_getElem_cons hlt, e, hitH_or _ _ _ _ hn, map_or', Option.or_assoc] at h
  exact h
theorem inv_env {ch : List Phi} {chs : List (List Phi)} {i l : Nat} {key : Str} {D full Z : Option (Nat × Str)} (hc : chs[l]? = some ch) (h : D.or (((hitC (chs.drop l) key).map fun nm => (i, nm)).or Z) = full) :
    (stepD D i (findS ch key)).or (((hitC (chs.drop (l + 1)) key).map fun nm => (i, nm)).or Z) = full := by
  obtain ⟨hlt, e⟩ := List.getElem?_eq_some_iff.mp hc
  rw [List.drop_eq_getElem_cons hlt, e, hitC_or, map_or', Option.or_assoc] at h
  unfold stepD
  rw [Option.or_assoc]
  exact h
theorem TOut.split {news : Led} {pl : Int} {r : Value} {D : Option (Nat × Str)} (h : TOut news pl r D) : pl = duI D ∧ RIn news r (D.map Prod.snd) := by
  cases D with
  | none => exact h
  | some x => exact h
theorem duS_map (D : Option (Nat × Str)) : (D.map Prod.snd).getD (Str.ofString "") = duS D := by cases D <;> rfl
theorem findS_ok : ∀ {chs : List Phi} {k nm : Str}, (∀ φ ∈ chs, NmOk φ) → findS chs k = some nm → nmOk nm
  | [], k, nm, _, h => nomatch h
  | φ :: ch, k, nm, hn, h => by
    have h' : (match φ k with | some (some nm) => some nm | _ => findS ch k) = some nm := h
    cases hφ : φ k with
    | none => rw [hφ] at h'; exact findS_ok (fun φ hp => hn φ (.tail _ hp)) h'
    | some f =>
      cases f with
      | none => rw [hφ] at h'; exact findS_ok (fun φ hp => hn φ (.tail _ hp)) h'
      | some x => rw [hφ] at h'; cases h'; exact hn φ (.head _) _ _ hφ
theorem Ready.ok {w : World} {K : Cfg} {nx : Led} {φ : Nat → Phi} {qo : Nat → Obj} (R : Ready w K nx φ qo) {k : Int} {key nm : Str} (h : findS (chainOf (φ 0) (φ 1) (φ 2) (φ 3) k) key = some nm) : nmOk nm := by
  have one : ∀ i, i < 4 → NmOk (φ i) := fun i hi => by
    obtain ⟨kq, _, _, o⟩ := R.iq i hi
    exact o
  refine findS_ok (fun ψ hψ => ?_) h
  unfold chainOf at hψ
  (repeat' split at hψ) <;> simp only [List.mem_cons, List.mem_nil_iff, or_false] at hψ
  · subst hψ; exact one 0 (by decide)
  · rcases hψ with rfl | rfl
    · exact one 1 (by decide)
    · exact one 0 (by decide)
  · rcases hψ with rfl | rfl | rfl
    · exact one 2 (by decide)
    · exact one 1 (by decide)
    · exact one 0 (by decide)
  · subst hψ; exact one 3 (by decide)
theorem hitC_ok {chs : List (List Phi)} {key nm : Str} (hn : ∀ ch ∈ chs, ∀ k nm, findS ch k = some nm → nmOk nm) (h : hitC chs key = some nm) : nmOk nm := by
  obtain ⟨ch, hc, h⟩ := List.exists_of_findSome?_eq_some h
  exact hn ch hc _ _ h
theorem hitP_ok {chs : List (List Phi)} {hs : List Str} (hn : ∀ ch ∈ chs, ∀ k nm, findS ch k = some nm → nmOk nm) : ∀ {ks : List Str} {i : Nat} {x : Nat × Str}, hitP chs hs i ks = some x → nmOk x.2
  | [], i, x, h => nomatch h
  | c :: r, i, x, h => by
    have h' : (match hitH chs hs c with | some nm => some (i, nm) | none => hitP chs hs (i + 1) r) = some x := h
    cases hh : hitH chs hs c with
    | none => rw [hh] at h'; exact hitP_ok hn h'
    | some nm =>
      rw [hh] at h'
      cases h'
      obtain ⟨h, hm, e⟩ := List.exists_of_findSome?_eq_some hh
      split at e
      · cases e
      · exact hitC_ok hn e
theorem duS_ok {D : Option (Nat × Str)} (h : ∀ x, D = some x → nmOk x.2) : nmOk (duS D) := by
  cases D with
  | none => show (Str.ofString "").cps.all (· < 0x110000) = true; decide +kernel
  | some x => exact h x rfl
theorem pair_shaped {i : Int} {s : Str} (h : nmOk s) : SeqAt.shaped (.tuple [.int i, .str s]) = true := by
  have h' : PyData.strOk s = true := h
  simp [SeqAt.shaped, PyData.canLay0, PyData.canLayAll0, PyData.depth, PyData.depthAll, h']
theorem cut_flow {M : Model} {A : Around} {t : Sem Flow} {Q : Flow → Shared → Prop} {E : Value → Shared → Prop} {s : Shared} {h₀ g₀ : Heap} {L : Addr} {m₀ : Str → Option Value} (F₀ : Fr h₀ L g₀ m₀) (P : (Str → Option Value) → Led → Prop)
    (h : wpAny M A t (fun f s' => Hold (f = .next ∧ ∃ h' tk' m' nx', s' = { s with heap := h', toks := tk' } ∧ Fr h₀ L h' m' ∧ News h₀ L h' nx' ∧ P m' nx')) E s)
    (go : ∀ m' h' tk' nx', Fr h₀ L h' m' → News h₀ L h' nx' → P m' nx' → Q .next { s with heap := h', toks := tk' }) : wpAny M A t Q E s :=
  wpAny_mono h (fun f s' hq => by obtain ⟨rfl, h', tk', m', nx', rfl, F, N, p⟩ := hq; exact go m' h' tk' nx' F N p) fun _ _ e => e
theorem pair_cmp {prog : Program} {w : World} {A : Around} {E : Value → Shared → Prop} {s : Shared} {h₀ : Heap} {L x y : Addr} {news : Led} {i : Int} {st : Str} {t1 t2 u1 u2 : Tok} {Q : Value → Shared → Prop}
    (N : News h₀ L s.heap news) (m1 : (x, pairOf i t1 (.str st t2)) ∈ news) (m2 : (y, pairOf i u1 (.str st u2)) ∈ news) (hok : nmOk st) (hu : A.units + 64 < cLine) (h : Q (.bool false) s) :
    wpAny (model prog w) A (compareOp .NotEq (.ref x) (.ref y)) Q E s := by
  have sh := pair_shaped (i := i) hok
  refine ne_dataH (reads_tuple_at (News.get N m1) rfl rfl (.cons (.int _ _) (.cons (.str _ _) .nil))) (reads_tuple_at (News.get N m2) rfl rfl (.cons (.int _ _) (.cons (.str _ _) .nil))) sh sh hu ?_
  rw [SeqAt.eqv_refl _ (SeqAt.canLay_of_shaped sh)]
  exact h
theorem hitC_two (a b : List Phi) (k : Str) : hitC [a, b] k = (findS a k).or (findS b k) := by
  rw [hitC_or, hitC_or]
  show (findS a k).or ((findS b k).or none) = _
  rw [Option.or_none]
theorem draw_default : Str.ofString "draw" ++ Str.ofString "." ++ Str.ofString "default" = Str.ofString "draw.default" := by decide +kernel
theorem getD_none {f : Option Str} (hn : ∀ nm, f = some nm → nm ≠ Str.ofString "") (h : f.getD (Str.ofString "") = Str.ofString "") : f = none := by
  cases f with
  | none => rfl
  | some x => exact absurd h (hn x rfl)
theorem getD_some {f g : Option Str} (h : ¬ f.getD (Str.ofString "") = Str.ofString "") : f.or g = f := by
  cases f with
  | none => exact absurd rfl h
  | some x => rfl
end PS7

section PC10
theorem copy_led {prog : Program} {w : World} {A : Around} {E : Value → Shared → Prop} {s : Shared} {h₀ : Heap} {L l : Addr} {m : Str → Option Value} {news : List (Addr × Obj)} {vs : List Value} {n : Nat} {Q : Value → Shared → Prop}
    (F : Fr h₀ L s.heap m) (N : News h₀ L s.heap news) (hm : (l, listOf vs.toArray n) ∈ news) (hz : vs.length ≤ 100)
    (h : ∀ D c h', (∀ q ∈ news, q.1 < D) → Fr h₀ L h' m → News h₀ L h' ((D, listOf (List.toArray vs) c) :: news) → Q (.ref D) { s with heap := h' }) :
    wpAny (model prog w) A (call (.type "list") [.ref l]) Q E s :=
  list_copyK F N ⟨_, (N _ hm).1, rfl, n, rfl⟩ (fun D c h' F' N' lt => h D c h' lt F' N') (by rw [sizeLine_eq, List.size_toArray]; omega)
section
variable {prog : Program} {w : World} {A : Around} {E : Value → Shared → Prop} {s : Shared} {a b : Int} {t u : Tok} {Q : Value → Shared → Prop}
theorem eq_int_t (e : a = b) (h : Q (.bool true) s) : wpAny (model prog w) A (compareOp .Eq (.int a t) (.int b u)) Q E s := eq_int (by rw [beq_iff_eq.mpr e]; exact h)
theorem eq_int_f (e : a ≠ b) (h : Q (.bool false) s) : wpAny (model prog w) A (compareOp .Eq (.int a t) (.int b u)) Q E s := eq_int (by rw [beq_eq_false_iff_ne.mpr e]; exact h)
end
theorem KD.facts {kd : Str} {im : List Str} (h : KD kd im) : (kd == Str.ofString "language") = false ∧ (kd == Str.ofString "symbol") = false ∧ (kd == Str.ofString "S4") = false ∧ (kd == Str.ofString "closure") = false ∧ (kd == Str.ofString "builtin") = false ∧ (kd == Str.ofString "special") = false := by
  rcases h with ⟨rfl, _⟩ | ⟨rfl, _⟩ | ⟨rfl, _⟩ <;> decide +kernel
/-- what attrs says of the shape -/
inductive ShapeOf (w : World) (news : List (Addr × Obj)) : Value → List Str → Prop
  | none : ShapeOf w news .none []
  | dim {ad dv ddv il : Addr} {ao : Obj} {kvs : List (Str × Value)} {des : List DictEntry} {dn i_n : Nat} {ivs : List Value} {sh : List Str} : (ad, ao) ∈ news → ao.IsDictOf (PySem.strKind PR w) kvs → (ad == sysModules) = false → PySem.valueAt kvs (Str.ofString "class") = Option.none → PySem.valueAt kvs (Str.ofString "dim") = some (.ref dv) →
      (dv, instObj 95 ddv) ∈ news → (ddv, dictOf des dn) ∈ news → getL (Str.ofString "items") des = some (some (.ref il)) → (il, listOf ivs.toArray i_n) ∈ news → ivs.length ≤ 3 → SH ivs.length sh → ShapeOf w news (.ref ad) sh
theorem ShapeOf.handed {w : World} {news : List (Addr × Obj)} {v : Value} {sh : List Str} (h : ShapeOf w news v sh) : handedIn v = true := by cases h <;> rfl
theorem ShapeOf.len {w : World} {news : List (Addr × Obj)} {v : Value} {sh : List Str} (h : ShapeOf w news v sh) : sh.length ≤ 2 := by
  cases h with
  | none => exact Nat.zero_le _
  | dim _ _ _ _ _ _ _ _ _ _ h => exact h.len
section K
theorem kind_ok {w : World} {dp un : Nat} {gd : Option (List Code)} {cn : Str} {cs : Scope} {a : Addr} {ccd : Value} {cl : List (Str × Addr)} {outer : List Env} {A₀ : Around} {base h₀ : Heap} {L : Addr} {m : Str → Option Value} {s : Shared}
  {p : Program} {loose : List Str} {mean : ExcName → Option Value} {mg mb : Str → Option Value} {news : List (Addr × Obj)} {x dx : Addr} {es : List DictEntry} {n : Nat} {kd : Str} {t : Tok} {im : List Str} {Q E : Value → Shared → Prop}
  (B : Below A₀ base outer h₀) (F : Fr h₀ L s.heap m) (X : (hd.heap_39 w.params).In h₀) (N : News h₀ L s.heap news) (T : Top p loose mean mg mb h₀) (hk : cs.kind = .function) (hd : dp + 2 < recursionLimit) (hu : un + 16 < cLine)
  (hx : (x, instObj 95 dx) ∈ news) (hdx : (dx, dictOf es n) ∈ news) (hkind : getL (Str.ofString "kind") es = some (some (.str kd t))) (hK : KD kd im)
  (ret : ∀ h' tk', Fr h₀ L h' m → News h₀ L h' news → Q (.str kd t) {s with heap := h', toks := tk'}) :
  wpAny (model PR w) (ktrTop dp un gd cn cs L a ccd cl outer) (call (.ref 63) [.ref x]) Q E s := by
  have dummy : (fun (_ : OpenLaw) (_ : Params → Frag) => True) PySem.Challenge.rw_ov0049_01 Mine.hd.heap_39 := by
    k_fill
    trivial
  w_top off
  k_with_none
  k_with "getAttr ref" => (k_here; k_dflt (refine' get_own ?k1 ?k2 (InstAt.of_news ?kN ?ka ?kb) ?k4 ?k5 ?k6 ?k7 ?k8 ?k9 ?_; (case k1 => k_asm); (case k2 => k_asm); (case kN => k_asm); (case ka => k_mem); (case kb => k_mem); (case k4 => k_is); (case k5 => k_is); (case k6 => k_is); (case k7 => k_is); (case k8 => assumption); (case k9 => first | rfl | exact EnvIn.handed (by assumption))))
  obtain ⟨f1, f2, f3, f4, f5, f6⟩ := hK.facts
  refine wpAny_call ?_
  k_dflt ktr_enter
  k_steps
  exact ret _ _ (by k_asm) (by k_asm)
end K
section H
theorem shape_ok {w : World} {dp un : Nat} {gd : Option (List Code)} {cn : Str} {cs : Scope} {a : Addr} {ccd : Value} {cl : List (Str × Addr)} {outer : List Env} {A₀ : Around} {base h₀ : Heap} {L : Addr} {m : Str → Option Value} {s : Shared}
  {p : Program} {loose : List Str} {mean : ExcName → Option Value} {mg mb : Str → Option Value} {news : List (Addr × Obj)} {x dx : Addr} {es : List DictEntry} {n : Nat} {av : Value} {sh : List Str} {Q E : Value → Shared → Prop}
  (B : Below A₀ base outer h₀) (F : Fr h₀ L s.heap m) (X : (hd.heap_39 w.params).In h₀) (N : News h₀ L s.heap news) (T : Top p loose mean mg mb h₀) (hk : cs.kind = .function) (hd : dp + 4 < recursionLimit) (hu : un + 32 < cLine)
  (hx : (x, instObj 95 dx) ∈ news) (hdx : (dx, dictOf es n) ∈ news) (hat : getL (Str.ofString "attrs") es = some (some av)) (hS : ShapeOf w news av sh)
  (ret : ∀ l vs c h' tk', StrsAre vs (sh) → (∀ p ∈ news, p.1 < l) → Fr h₀ L h' m → News h₀ L h' ((l, listOf (List.toArray vs) c) :: news) → Q (.ref l) {s with heap := h', toks := tk'}) :
  wpAny (model PR w) (ktrTop dp un gd cn cs L a ccd cl outer) (call (.ref 56) [.ref x]) Q E s := by
  have dummy : (fun (_ : OpenLaw) (_ : Params → Frag) => True) PySem.Challenge.rw_ov0049_01 Mine.hd.heap_39 := by
    k_fill
    trivial
  w_top off
  k_with_none
  k_with "getAttr ref" => (k_here; k_dflt (refine' get_own ?k1 ?k2 (InstAt.of_news ?kN ?ka ?kb) ?k4 ?k5 ?k6 ?k7 ?k8 ?k9 ?_; (case k1 => k_asm); (case k2 => k_asm); (case kN => k_asm); (case ka => k_mem); (case kb => k_mem); (case k4 => k_is); (case k5 => k_is); (case k6 => k_is); (case k7 => k_is); (case k8 => assumption); (case k9 => first | rfl | exact EnvIn.handed (by assumption))))
  k_with "call type:list" => (k_here; (with_reducible show wpAny _ _ (call (Value.type _) [Value.ref _]) _ _ _); k_dflt (refine copy_led (by k_asm) (by k_asm) (by k_mem) (by first | assumption | omega) ?_); intro D' c' h' l1 F' N'; (try k_lt l1); (try k_sweep))
  k_with "getMethod ref" => (k_here; (with_reducible show wpAny _ _ (getMethod (Value.ref _) (Str.ofString "get") _) _ _ _); k_dflt (refine kdg_method (knd := PySem.strKind _ _) (by k_asm) (by k_mem) (by k_asm) ?_))
  k_with "call builtin:dict.get" => (k_here; k_dflt (refine kdg_get1 (knd := PySem.strKind _ _) (by k_asm) (by k_mem) (by k_asm) (by k_asm) (strKind_is _ _ _ _) (some _) (by assumption) ?_); (try dsimp only [Option.getD]))
  k_with "compareOp In str ref" => (k_here; k_dflt (first
  | refine kda_in (knd := PySem.strKind _ _) (by k_asm) (by k_mem) (by k_asm) (by k_asm) (strKind_is _ _ _ _) false (isn_of (by assumption)) ?_
  | refine kda_in (knd := PySem.strKind _ _) (by k_asm) (by k_mem) (by k_asm) (by k_asm) (strKind_is _ _ _ _) true (iss_of (by assumption)) ?_))
  k_with "call builtin:len" => (k_here; (with_reducible show wpAny _ _ (call (Value.builtin "len") [Value.ref _]) _ _ _); k_dflt (refine' kst_len ?k1 ?k2 rfl ?k4 ?_; (case k1 => k_asm); (case k2 => k_mem); (case k4 => omega)))
  k_with "compareOp Eq int int" => (refine Hold.of ?_)
  cases hS with
  | none =>
    refine wpAny_call ?_
    k_dflt ktr_enter
    k_steps
    (rename Fr _ _ _ _ => F9; rename News _ _ _ _ => N9)
    exact ret _ [] _ _ _ .nil (by assumption) F9 N9
  | dim b1 b2 b3 b4 b5 b6 b7 b8 b9 b10 b11 =>
    rename_i ivs
    have hz : ivs.length ≤ 100 := by omega
    refine wpAny_call ?_
    k_dflt ktr_enter
    k_steps
    refine Hold.go ?_
    rename (∀ q, q ∈ news → q.1 < _) => lt1
    rcases b11 with ⟨hn, rfl⟩ | ⟨hn, rfl⟩
    ·
      refine eq_int_t (by omega) ?_
      k_steps
      (rename Fr _ _ _ _ => F9; rename News _ _ _ _ => N9)
      exact ret _ [_, _] _ _ _ (.cons _ _ (.cons _ _ .nil)) (fun p hp => Nat.lt_trans (lt1 p hp) (by refine ltN ?_; omega)) F9 (kst_newsOf N9 (by kst_inAny))
    ·
      refine eq_int_f (by omega) ?_
      k_steps
      (rename Fr _ _ _ _ => F9; rename News _ _ _ _ => N9)
      exact ret _ [_] _ _ _ (.cons _ _ .nil) (fun p hp => Nat.lt_trans (lt1 p hp) (by refine ltN ?_; omega)) F9 (kst_newsOf N9 (by kst_inAny))
end H
end PC10

section PC11
section I
local macro_rules | `(tactic| size_fits) => `(tactic| (simp only [List.size_toArray, PySem.sizeLine_eq]; omega))
theorem strs_snoc2 {vs : List Value} {ss a : List Str} {x : Str} {t : Tok} (h : StrsAre vs (ss ++ a)) : StrsAre (vs ++ [.str x t]) (ss ++ (a ++ [x])) := by
  rw [← List.append_assoc]; exact h.append' (.cons _ _ .nil)
theorem impl_ok {w : World} {dp un : Nat} {gd : Option (List Code)} {cn : Str} {cs : Scope} {a : Addr} {ccd : Value} {cl : List (Str × Addr)} {outer : List Env} {A₀ : Around} {base h₀ : Heap} {L : Addr} {m : Str → Option Value} {s : Shared}
  {p : Program} {loose : List Str} {mean : ExcName → Option Value} {mg mb : Str → Option Value} {news : List (Addr × Obj)} {x dx : Addr} {es : List DictEntry} {n : Nat} {av : Value} {kd : Str} {t : Tok} {im sh : List Str} {Q E : Value → Shared → Prop}
  (B : Below A₀ base outer h₀) (F : Fr h₀ L s.heap m) (X : (hd.heap_39 w.params).In h₀) (N : News h₀ L s.heap news) (T : Top p loose mean mg mb h₀) (hk : cs.kind = .function) (hd : dp + 5 < recursionLimit) (hu : un + 40 < cLine)
  (hx : (x, instObj 95 dx) ∈ news) (hdx : (dx, dictOf es n) ∈ news) (hkind : getL (Str.ofString "kind") es = some (some (.str kd t))) (hat : getL (Str.ofString "attrs") es = some (some av)) (hK : KD kd im) (hS : ShapeOf w news av sh)
  (ret : ∀ l vs c h' tk', StrsAre vs (sh ++ im) → (∀ p ∈ news, p.1 < l) → Fr h₀ L h' m → News h₀ L h' ((l, listOf (List.toArray vs) c) :: news) → Q (.ref l) {s with heap := h', toks := tk'}) :
  wpAny (model PR w) (ktrTop dp un gd cn cs L a ccd cl outer) (call (.ref 70) [.ref x]) Q E s := by
  have dummy : (fun (_ : OpenLaw) (_ : Params → Frag) => True) PySem.Challenge.rw_ov0049_01 Mine.hd.heap_39 := by
    k_fill
    trivial
  w_top off
  k_with_none
  k_with "getAttr ref" => (k_here; k_dflt (refine' get_own ?k1 ?k2 (InstAt.of_news ?kN ?ka ?kb) ?k4 ?k5 ?k6 ?k7 ?k8 ?k9 ?_; (case k1 => k_asm); (case k2 => k_asm); (case kN => k_asm); (case ka => k_mem); (case kb => k_mem); (case k4 => k_is); (case k5 => k_is); (case k6 => k_is); (case k7 => k_is); (case k8 => assumption); (case k9 => first | rfl | exact EnvIn.handed (by assumption))))
  k_with "call ref" => (refine Hold.of ?_)
  k_with "binaryOp Add ref ref" => (refine Hold.of ?_)
  k_with "exec If" => (refine Hold.of ?_)
  have hav := hS.handed
  have hsl := hS.len
  refine wpAny_call ?_
  k_dflt ktr_enter
  k_steps
  refine Hold.go ?_
  refine kind_ok (by k_asm) (by k_asm) (by k_asm) (by k_asm) (by k_asm) (by rfl) (by ktr_room) (by ktr_units) hx hdx hkind hK (fun h1 tk1 F1 N1 => ?_)
  k_steps
  refine Hold.go ?_
  refine shape_ok (by k_asm) (by k_asm) (by k_asm) (by k_asm) (by k_asm) (by rfl) (by ktr_room) (by ktr_units) hx hdx hat hS (fun l2 vs2 c2 h2 tk2 hv2 lt2 F2 N2 => ?_)
  try k_lt lt2
  k_steps
  refine Hold.go ?_
  refine strs_add (by k_asm) (by k_asm) (.tail _ (.head _)) (.head _) hv2 (us := [_]) (.cons _ _ .nil) (by omega) (by show 1 ≤ 100; decide) (fun D ws h3 lt3 hws F3 N3 => ?_)
  try k_lt lt3
  have hwl : ws.length ≤ 3 := by rw [hws.length, List.length_append]; show sh.length + 1 ≤ 3; omega
  k_steps
  refine Hold.go ?_
  have lt9 : ∀ p ∈ news, p.1 < D := kst_ltOf lt3.2.2
  rcases hK with ⟨rfl, rfl⟩ | ⟨rfl, rfl⟩ | ⟨rfl, rfl⟩
  · refine wpAny_If ?_
    k_steps
    (rename Fr _ _ _ _ => F9; rename News _ _ _ _ => N9)
    simp only [List.push_toArray] at N9
    exact ret _ _ _ _ _ (strs_snoc2 hws) lt9 F9 (kst_newsOf N9 (by kst_inAny))
  · refine wpAny_If ?_
    k_steps
    (rename Fr _ _ _ _ => F9; rename News _ _ _ _ => N9)
    simp only [List.push_toArray] at N9
    exact ret _ _ _ _ _ (strs_snoc2 hws) lt9 F9 (kst_newsOf N9 (by kst_inAny))
  · refine wpAny_If ?_
    k_steps
    (rename Fr _ _ _ _ => F9; rename News _ _ _ _ => N9)
    exact ret _ _ _ _ _ hws lt9 F9 (kst_newsOf N9 (by kst_inAny))
end I
section J
theorem disp_ok {w : World} {dp un : Nat} {gd : Option (List Code)} {cn : Str} {cs : Scope} {a : Addr} {ccd : Value} {cl : List (Str × Addr)} {outer : List Env} {A₀ : Around} {base h₀ : Heap} {L : Addr} {m : Str → Option Value} {s : Shared}
  {p : Program} {loose : List Str} {mean : ExcName → Option Value} {mg mb : Str → Option Value} {news : List (Addr × Obj)} {x dx : Addr} {es : List DictEntry} {n : Nat} {av : Value} {kd : Str} {t : Tok} {im sh : List Str} {Q E : Value → Shared → Prop}
  (B : Below A₀ base outer h₀) (F : Fr h₀ L s.heap m) (X : (hd.heap_39 w.params).In h₀) (N : News h₀ L s.heap news) (T : Top p loose mean mg mb h₀) (hk : cs.kind = .function) (hd : dp + 6 < recursionLimit) (hu : un + 48 < cLine)
  (hx : (x, instObj 95 dx) ∈ news) (hdx : (dx, dictOf es n) ∈ news) (hkind : getL (Str.ofString "kind") es = some (some (.str kd t))) (hat : getL (Str.ofString "attrs") es = some (some av)) (hK : KD kd im) (hS : ShapeOf w news av sh)
  (ret : ∀ l vs c h' tk', StrsAre vs (sh ++ im) → (∀ p ∈ news, p.1 < l) → Fr h₀ L h' m → News h₀ L h' ((l, listOf (List.toArray vs) c) :: news) → Q (.ref l) {s with heap := h', toks := tk'}) :
  wpAny (model PR w) (ktrTop dp un gd cn cs L a ccd cl outer) (call (.ref 156) [.ref x]) Q E s := by
  have dummy : (fun (_ : OpenLaw) (_ : Params → Frag) => True) PySem.Challenge.rw_ov0049_01 Mine.hd.heap_39 := by
    k_fill
    trivial
  w_top off
  k_with_none
  k_with "getAttr ref" => (k_here; k_dflt (refine' get_own ?k1 ?k2 (InstAt.of_news ?kN ?ka ?kb) ?k4 ?k5 ?k6 ?k7 ?k8 ?k9 ?_; (case k1 => k_asm); (case k2 => k_asm); (case kN => k_asm); (case ka => k_mem); (case kb => k_mem); (case k4 => k_is); (case k5 => k_is); (case k6 => k_is); (case k7 => k_is); (case k8 => assumption); (case k9 => first | rfl | exact EnvIn.handed (by assumption))))
  k_with "call ref" => (refine Hold.of ?_)
  k_with "compareOp In str ref" => (k_here; k_dflt (first
  | refine kda_in (knd := PySem.strKind _ _) (by k_asm) (by k_mem) (by k_asm) (by k_asm) (strKind_is _ _ _ _) false (isn_of (by assumption)) ?_
  | refine kda_in (knd := PySem.strKind _ _) (by k_asm) (by k_mem) (by k_asm) (by k_asm) (strKind_is _ _ _ _) true (iss_of (by assumption)) ?_))
  have hS' := hS
  have hav := hS.handed
  cases hS with
  | none =>
    refine wpAny_call ?_
    k_dflt ktr_enter
    k_steps
    refine Hold.go ?_
    refine impl_ok (by k_asm) (by k_asm) (by k_asm) (by k_asm) (by k_asm) (by rfl) (by ktr_room) (by ktr_units) hx hdx hkind hat hK hS' (fun l2 vs2 c2 h2 tk2 hv2 lt2 F2 N2 => ?_)
    k_steps
    exact ret _ _ _ _ _ hv2 lt2 (by k_asm) (by k_asm)
  | dim b1 b2 b3 b4 b5 b6 b7 b8 b9 b10 b11 =>
    refine wpAny_call ?_
    k_dflt ktr_enter
    k_steps
    refine Hold.go ?_
    refine impl_ok (by k_asm) (by k_asm) (by k_asm) (by k_asm) (by k_asm) (by rfl) (by ktr_room) (by ktr_units) hx hdx hkind hat hK hS' (fun l2 vs2 c2 h2 tk2 hv2 lt2 F2 N2 => ?_)
    k_steps
    exact ret _ _ _ _ _ hv2 lt2 (by k_asm) (by k_asm)
end J
section C
theorem dispC_ok {w : World} {dp un : Nat} {gd : Option (List Code)} {cn : Str} {cs : Scope} {a : Addr} {ccd : Value} {cl : List (Str × Addr)} {outer : List Env} {A₀ : Around} {base h₀ : Heap} {L : Addr} {m : Str → Option Value} {s : Shared}
  {p : Program} {loose : List Str} {mean : ExcName → Option Value} {mg mb : Str → Option Value} {news : List (Addr × Obj)} {x dx : Addr} {es : List DictEntry} {n : Nat} {ss : List Str} {ad dv ddv il : Addr} {ao : Obj} {kvs : List (Str × Value)} {des : List DictEntry} {dn i_n : Nat} {ivs : List Value} {Q E : Value → Shared → Prop}
  (B : Below A₀ base outer h₀) (F : Fr h₀ L s.heap m) (X : (hd.heap_39 w.params).In h₀) (N : News h₀ L s.heap news) (T : Top p loose mean mg mb h₀) (hk : cs.kind = .function) (hd : dp + 6 < recursionLimit) (hu : un + 48 < cLine)
  (hx : (x, instObj 95 dx) ∈ news) (hdx : (dx, dictOf es n) ∈ news) (hat : getL (Str.ofString "attrs") es = some (some (.ref ad))) (had : (ad, ao) ∈ news) (hao : ao.IsDictOf (PySem.strKind PR w) kvs) (hsys : (ad == sysModules) = false) (hcl : PySem.valueAt kvs (Str.ofString "class") = some (.ref dv))
  (hdv : (dv, instObj 95 ddv) ∈ news) (hddv : (ddv, dictOf des dn) ∈ news) (hitems : getL (Str.ofString "items") des = some (some (.ref il))) (hil : (il, listOf ivs.toArray i_n) ∈ news) (hiz : ivs.length ≤ 100)
  (hss : StrsAre ivs ss)
  (ret : ∀ l vs c h' tk', StrsAre vs (ss) → (∀ p ∈ news, p.1 < l) → Fr h₀ L h' m → News h₀ L h' ((l, listOf (List.toArray vs) c) :: news) → Q (.ref l) {s with heap := h', toks := tk'}) :
  wpAny (model PR w) (ktrTop dp un gd cn cs L a ccd cl outer) (call (.ref 156) [.ref x]) Q E s := by
  have dummy : (fun (_ : OpenLaw) (_ : Params → Frag) => True) PySem.Challenge.rw_ov0049_01 Mine.hd.heap_39 := by
    k_fill
    trivial
  w_top off
  k_with_none
  k_with "getAttr ref" => (k_here; k_dflt (refine' get_own ?k1 ?k2 (InstAt.of_news ?kN ?ka ?kb) ?k4 ?k5 ?k6 ?k7 ?k8 ?k9 ?_; (case k1 => k_asm); (case k2 => k_asm); (case kN => k_asm); (case ka => k_mem); (case kb => k_mem); (case k4 => k_is); (case k5 => k_is); (case k6 => k_is); (case k7 => k_is); (case k8 => assumption); (case k9 => first | rfl | exact EnvIn.handed (by assumption))))
  k_with "call type:list" => (k_here; (with_reducible show wpAny _ _ (call (Value.type _) [Value.ref _]) _ _ _); k_dflt (refine copy_led (by k_asm) (by k_asm) (by k_mem) (by first | assumption | omega) ?_); intro D' c' h' l1 F' N'; (try k_lt l1); (try k_sweep))
  k_with "getMethod ref" => (k_here; (with_reducible show wpAny _ _ (getMethod (Value.ref _) (Str.ofString "get") _) _ _ _); k_dflt (refine kdg_method (knd := PySem.strKind _ _) (by k_asm) (by k_mem) (by k_asm) ?_))
  k_with "call builtin:dict.get" => (k_here; k_dflt (refine kdg_get1 (knd := PySem.strKind _ _) (by k_asm) (by k_mem) (by k_asm) (by k_asm) (strKind_is _ _ _ _) (some _) (by assumption) ?_); (try dsimp only [Option.getD]))
  k_with "compareOp In str ref" => (k_here; k_dflt (first
  | refine kda_in (knd := PySem.strKind _ _) (by k_asm) (by k_mem) (by k_asm) (by k_asm) (strKind_is _ _ _ _) false (isn_of (by assumption)) ?_
  | refine kda_in (knd := PySem.strKind _ _) (by k_asm) (by k_mem) (by k_asm) (by k_asm) (strKind_is _ _ _ _) true (iss_of (by assumption)) ?_))
  refine wpAny_call ?_
  k_dflt ktr_enter
  k_steps
  rename (∀ q, q ∈ news → q.1 < _) => lt1
  exact ret _ ivs _ _ _ hss lt1 (by k_asm) (by k_asm)
end C
end PC11

/-- a stage of the walk: what is left to show -/
inductive Box (p : Prop) : Prop
  | mk : p → Box p
theorem Box.out {p : Prop} (h : Box p) : p := by
  cases h; assumption

def law1 := fun (walk : Box _) => (show PySem.Challenge.rw_ov0049_01.Holds from by
  k_with_none
  k_with "call ref" => (k_here; (with_reducible show wpAny _ _ (call (Value.ref 191) _) _ _ _); (refine Hold.of ?_))
  refine hd ?_
  k_go0
  all_goals try k_fold
  k_steps
  repeat revert ‹_›
  exact fun h => h.out)
def law2 := fun (walk : Box _) => (show PySem.Challenge.rw_ov0049_01.Holds from by
  k_with_none
  w_top off
  k_with "call ref" => (refine Hold.of ?_)
  refine law1 (.mk ?_)
  k_fill
  intros
  refine Hold.go ?_
  have hz9 := IntsAre.length (by assumption)
  refine cells_ok (by k_asm) (by k_asm) (by k_asm) (by k_asm) (by k_asm) (by rfl) (by decide) (by decide) (by k_asm) (by k_asm) (by omega) (fun c vs' ns' n' h' tk' hlt hIc hzc F' N' => ?_)
  k_lt hlt
  clear hz9
  k_steps
  repeat revert ‹_›
  exact fun h => h.out)
def law3 := fun (walk : Box _) => (show PySem.Challenge.rw_ov0049_01.Holds from by
  k_with_none
  w_top off
  k_with "call ref" => (refine Hold.of ?_)
  k_with "call builtin:list.append" => (k_here; (with_reducible show wpAny _ _ (call (Value.builtin _) [Value.ref _, _]) _ _ _); k_dflt (refine' append_K ?k1 ?k2 ?k3 ?_ ?z; (case k1 => k_asm); (case k2 => k_asm); (case k3 => k_upd); (case z => (rw [PySem.sizeLine_eq]; exact Nat.le_of_ble_eq_true rfl)); k_whole); intro h' F' N'; (try k_sweep))
  refine law2 (.mk ?_)
  k_fill
  intros
  iterate 4
    refine Hold.go ?_
    refine env_ok (by k_asm) (by k_asm) (by k_asm) (by k_asm) (by k_asm) (by rfl) (by decide) (by decide) (fun e d f lk o lo es n h' tk' l1 l2 l3 l4 ls ld lf lp F' N' => ?_)
    k_lt l1
    k_lt2 l2
    k_lt2 l3
    k_lt2 l4
    k_steps
  repeat revert ‹_›
  exact fun h => h.out)
def law4 := fun (walk : Box _) => (show PySem.Challenge.rw_ov0049_01.Holds from by
  k_with_none
  w_top off
  k_with "call ref" => (refine Hold.of ?_)
  k_with "CompSrc" => (refine Hold.of ?_)
  k_with "exec Assign cons ListComp" => (k_here; k_dflt (refine LCg.Assign_ListComp_U (F₀ := by k_asm) (by rfl) (by with_unfolding_all rfl) (by with_unfolding_all rfl) (by decide) (by rfl) (by decide) (by rfl) (by rfl) (by rfl) ?_))
  refine law3 (.mk ?_)
  k_fill
  intros
  refine Hold.go ?_
  (rename News _ _ _ _ => N9)
  obtain ⟨K, rest, go, qo, hKc, hKcl, hKol, hKpl, hKfl, S, D, N⟩ := setup N9 (by refine ⟨?_, ?_, ?_, ?_, ?_, ?_, ?_, ?_, ?_, ?_, ?_, ?_, ?_, ?_, ?_, ?_, ?_, ?_, ?_, ?_, ?_, ?_, ?_, ?_⟩ <;> omega) (by assumption)
     (by assumption) (by assumption) (by assumption) (by assumption) (by assumption) (by assumption)
     (by assumption) (by assumption) (by assumption) (by assumption) (by assumption) (by assumption)
     (by assumption) (by assumption) (by assumption) (by assumption) (by assumption) (by assumption)
     (by assumption) (by assumption) (by assumption) (by assumption) (by assumption) (by assumption)
  clear N9
  repeat (rename (@LT.lt Nat _ _ _ ∧ _) => hx; clear hx)
  repeat (rename (@LT.lt Nat _ _ _) => hx; clear hx)
  repeat (rename (Obj.IsDictOf _ _ _) => hx; clear hx)
  repeat (rename (PyProof.V.FlatPairs _ _ _) => hx; clear hx)
  repeat (rename (getL _ _ = _) => hx; clear hx)
  repeat (rename ((_ == sysModules) = false) => hx; clear hx)
  have NN := And.intro trivial N
  clear N
  repeat (rename (News _ _ _ _) => hx; clear hx)
  have N := NN.2
  clear NN
  obtain ⟨ot, hot, hoff, hro⟩ := dyn_head S go qo
  rw [hot] at N
  have mcell := hro _ S.cell
  have mcellD := S.cellD
  rw [hKcl] at mcell
  subst hKc hKol hKpl hKfl
  refine take_okU (by k_asm) (by k_asm) (by k_asm) N (by k_asm) (by rfl) (by decide) (by decide) (.head hoff) (by assumption) (by omega) (by decide) (by decide) (fun mi mt vs' ns' n' h' tk' hm0 hm5 hI1 hzx F' N' => ?_)
  clear N
  have hz1 := Nat.le_trans hzx (by assumption)
  clear hzx
  k_steps
  repeat revert ‹_›
  exact fun h => h.out)
def law5 := fun (walk : Box _) => (show PySem.Challenge.rw_ov0049_01.Holds from by
  k_with_none
  w_top off
  k_with "call ref" => (refine Hold.of ?_)
  k_with "subscriptTail" => (k_here; (with_reducible show wpAny _ _ (subscriptTail _ _ (Value.ref _) (Value.int _ _)) _ _ _); refine Hold.of ?_)
  k_with "CompEnd" => (refine Hold.of ?_)
  refine law4 (.mk ?_)
  k_fill
  set_option tactic.hygienic false in intros
  refine Hold.go ?_
  (rename Cfg => K; rename News _ _ _ _ => N; rename Led => ot)
  rename (∀ p, p ∈ _ → Prod.fst p ≠ _) => hoff
  refine src_range (by rfl) (by k_asm) N (by assumption) (by assumption) (by omega) (fun gg => ?_)
  rename (List.length _ ≤ 100) => hz0
  refine comp_inv (fun i ys nx => ∃ vs ns n ks, nx = (K.c, listOf (List.toArray vs) n) :: _ ∧ IntsAre vs ns ∧ vs.length ≤ 100 ∧ StrsAre ys ks ∧ ys.length = i ∧ ∀ k ∈ ks, Letter k) ⟨_, _, _, [], rfl, by assumption, hz0, .nil, rfl, fun _ h => nomatch h⟩ ?turn ?fin
  case turn =>
    rintro i ys nx v I oI C oC D m₂ h tk E' hi ⟨vs, ns, n, ks, rfl, hIv, hzv, hKs, hly, hLet⟩ ⟨tv, rfl⟩ hNs hlap F2 N2 off ne
    simp only [LCg.Off3] at off
    clear N hz0
    k_fold
    k_steps
    refine Hold.go ?_
    refine take_okU (by k_asm) (by k_asm) (by k_asm) (by k_asm) (by k_asm) (by rfl) (by decide) (by decide) (by k_updF) hIv (by omega) (by decide) (by decide) (fun r tr vs' ns' n' h' tk' hr0 hr1 hI1 hz1 F' N' => ?_)
    try dsimp only at N'
    k_steps
    refine Hold.go ?_
    refine item_any (by k_asm) (.head _) hr0 (by omega) (by exact hr1) (fun v hv => ?_)
    obtain ⟨c, tc, rfl, hcl⟩ := letter_of hr0 hr1 hv
    k_steps
    refine Hold.go ?_
    refine LCg.CompEnd.intro (by k_asm) (by k_asm) ((K.c, listOf vs'.toArray n') :: ot) (fun p hp => .tail _ hp) (by exact off) trivial ⟨vs', ns', n', ks ++ [c], rfl, hI1, by omega, strs_snoc hKs, by rw [List.length_append, hly]; rfl, ?_⟩
    intro k hk
    rcases List.mem_append.mp hk with hk | hk
    · exact hLet k hk
    · rw [List.mem_singleton.mp hk]; exact hcl
  rintro gys nx ⟨cvs, cns, cn, gks, rfl, hIv, hzv, hKs, hly, hLet⟩ GD hh tk F2 N2 off2
  simp only [LCg.Off1] at off2
  have hys : gys.length ≤ 4 := by omega
  clear N hz0
  dsimp only
  k_steps
  repeat revert ‹_›
  exact fun h => h.out)
def law6 := fun (walk : Box _) => (show PySem.Challenge.rw_ov0049_01.Holds from by
  k_with_none
  w_top off
  k_with "call ref" => (refine Hold.of ?_)
  k_with "subscriptTail" => (k_here; (with_reducible show wpAny _ _ (subscriptTail _ _ (Value.ref _) (Value.int _ _)) _ _ _); refine Hold.of ?_)
  k_with "exec For Name Call cons nil" => (k_here; (rename Fr _ _ _ _ => lF'); (with_unfolding_all refine' For_invVF lF' ?k1 ?k2 ?_; (case k1 => exact rfl); (case k2 => exact rfl); k_whole))
  k_with "pyIter ref" => (refine Hold.of ?_)
  refine law5 (.mk ?_)
  k_fill
  set_option tactic.hygienic false in intros
  refine Hold.go ?_
  (rename Cfg => K; rename News _ _ _ _ => N; rename Led => ot)
  refine take_okU (by k_asm) (by k_asm) (by k_asm) N (by k_asm) (by rfl) (by decide) (by decide) (by k_updF) (by assumption) (by omega) (by decide) (by decide) (fun r1 tr1 vs1 ns1 n1 h1 tk1 hr01 hr11 hI1 hz1 F1 N1 => ?_)
  have hz1 := Nat.le_trans hz1 (by assumption)
  clear N
  k_steps
  refine Hold.go ?_
  refine item_any (by k_asm) (.head _) hr01 (by omega) (by exact hr11) (fun v hv => ?_)
  obtain ⟨sx, tsx, rfl, hs0, hs3⟩ := place_of hr01 hr11 hv
  clear hv
  k_steps
  refine Hold.go ?_
  rename News _ _ _ _ => N2
  refine take_okU (by k_asm) (by k_asm) (by k_asm) (by k_asm) (by k_asm) (by rfl) (by decide) (by decide) (by k_updF) hI1 (by omega) (by decide) (by decide) (fun r2 tr2 vs2 ns2 n2 h2 tk2 hr02 hr12 hI2 hz2 F2 N2 => ?_)
  have hz2 := Nat.le_trans hz2 hz1
  k_steps
  refine Hold.go ?_
  refine words_ok (by k_asm) (by k_asm) (by k_asm) (by k_asm) (by k_asm) (by rfl) (by decide) (by decide) (fun W nW ws h3 tk3 hW hWs F3 N3 => ?_)
  k_lt hW
  k_steps
  repeat revert ‹_›
  exact fun h => h.out)
def law7 := fun (walk : Box _) => (show PySem.Challenge.rw_ov0049_01.Holds from by
  k_with_none
  w_top off
  k_with "call ref" => (refine Hold.of ?_)
  k_with "subscriptTail" => (k_here; (with_reducible show wpAny _ _ (subscriptTail _ _ (Value.ref _) (Value.int _ _)) _ _ _); k_dflt (refine' item_led ?k1 ?k2 ?k3 ?k4 ?k5 ?_ ?k6; (case k1 => k_asm); (case k2 => k_mem); (case k5 => assumption); (case k3 => omega); (case k4 => omega); (case k6 => with_unfolding_all rfl)))
  k_with "exec For Name Call cons nil" => (k_here; (rename Fr _ _ _ _ => lF'); (with_unfolding_all refine' For_invVF lF' ?k1 ?k2 ?_; (case k1 => exact rfl); (case k2 => exact rfl); k_whole))
  k_with "exec For Name List cons nil" => (k_here; (rename Fr _ _ _ _ => lF'); (with_unfolding_all refine' For_invVF lF' ?k1 ?k2 ?_; (case k1 => exact rfl); (case k2 => exact rfl); k_whole))
  k_with "pyIter ref" => (refine Hold.of ?_)
  k_with "GPost" => (refine Hold.of ?_)
  k_with "getAttr ref" => (k_here; k_dflt (refine' get_own ?k1 ?k2 (InstAt.of_news ?kN ?ka ?kb) ?k4 ?k5 ?k6 ?k7 ?k8 ?k9 ?_; (case k1 => k_asm); (case k2 => k_asm); (case kN => k_asm); (case ka => k_mem); (case kb => k_mem); (case k4 => k_is); (case k5 => k_is); (case k6 => k_is); (case k7 => k_is); (case k8 => assumption); (case k9 => first | rfl | exact EnvIn.handed (by assumption))))
  k_with "setItem ref str" => (k_here; k_dflt (refine' kda_set (knd := PySem.strKind _ _) ?F ?N ?U ?d (strKind_is _ _ _ _) ?z ?_; (case F => k_asm); (case N => k_asm); (case U => k_updF); (case d => k_asm); (case z => rw [sizeLine_eq]; omega)); intro h' o' F' N' hd'; (try dsimp only at N'))
  k_with "call type:str" => (k_here; (with_reducible show wpAny _ _ (call (Value.type "str") [Value.int _ _]) _ _ _); k_dflt (refine str_small (by omega) (by omega) ?_); intro _ _)
  k_with "binaryOp Add str str" => (k_here; (with_reducible show wpAny _ _ (binaryOp Operator.Add (Value.str _ _) (Value.str _ _)) _ _ _); k_dflt (refine SBL.add (hsz := add_m (by assumption)) ?_); intro _ _ _)
  refine law6 (.mk ?_)
  k_fill
  set_option tactic.hygienic false in intros
  refine Hold.go ?_
  (rename Cfg => K; rename News _ _ _ _ => N; rename Fr _ _ _ _ => F; rename Stat _ _ => S; rename Dyn _ _ _ _ _ _ => Dy; rename StrsAre _ theWords => hWs)
  (rename (_ ≠ _ ∧ LCg.Off1 _ _) => off2; rename (∀ k, k ∈ _ → Letter k) => hLet)
  rename (∀ lc, dynL _ lc _ _ ++ _ = _) => hot
  obtain ⟨rest0, nx, hWm, hDm, N9, J0⟩ := AInv.start (kn := [(Str.ofString "outer", .ref K.ol), (Str.ofString "places", .ref K.pl), (Str.ofString "frames", .ref K.fl), (Str.ofString "many", .int mi mt), (Str.ofString "given_classes", .ref GD), (Str.ofString "second", .int sx tsx), (Str.ofString "with_group", .bool (r2 == 0))]) N F S Dy hot off2 (by assumption) (by assumption) (by assumption) (knows_cons (by with_unfolding_all rfl) (knows_cons (by with_unfolding_all rfl) (knows_cons (by with_unfolding_all rfl) (knows_cons (by with_unfolding_all rfl) (knows_cons (by with_unfolding_all rfl) (knows_cons (by with_unfolding_all rfl) (knows_cons (by with_unfolding_all rfl) (knows_cons (by with_unfolding_all rfl) (knows_nil)))))))))
  clear N S Dy hot off2
  refine iter_listG _ _ (fun i m' nx' => AInv _ K rest0 [(Str.ofString "outer", .ref K.ol), (Str.ofString "places", .ref K.pl), (Str.ofString "frames", .ref K.fl), (Str.ofString "many", .int mi mt), (Str.ofString "given_classes", .ref GD), (Str.ofString "second", .int sx tsx), (Str.ofString "with_group", .bool (r2 == 0))] (4 * i) m' nx') (by rfl) F N9 (by exact J0) (fun i m' nx' h => h.mem hWm) ?turn ?done
  case turn =>
    rintro I i v m₁ nx1 h tk1 it hi hv ⟨vs, ns, n, go, qo, φ, ex, tc, tt, rfl, hI1, hz1, S1, D1, t0, t1, hk1⟩ hIn hne F2 N2
    replace F2 := fr_knowX hk1 F2
    clear F N9 J0
    rw [List.size_toArray] at hi
    obtain ⟨key, tkey, hcv, hkc'⟩ := strs_at hWs i hi
    have hkey := word_len hkc'
    have hi8 : i < 8 := by have := hWs.length; simp only [theWords, List.length_cons, List.length_nil] at this; omega
    rw [List.getElem?_toArray] at hv
    rw [hcv] at hv
    cases hv
    have oI : OffK K I := off_dyn hne
    dsimp only [kstB] at F2 N2 ⊢
    with_reducible show wpAny _ _ _ _ _ _
    k_fold
    k_steps
    refine Hold.go ?_
    rename_i D2 h4 F3 N3 l3
    have oD2 : OffK K D2 := off_lt (allLt_mem l3.2)
    refine iter_listG #[Value.int 2 tk1, Value.int 1 (tk1 + 1), Value.int 0 (tk1 + 1 + 1), Value.int 3 (tk1 + 1 + 1 + 1)] 0 (fun j m' nx2 => ∃ nx, nx2 = (D2, listOf #[Value.int 2 tk1, Value.int 1 (tk1 + 1), Value.int 0 (tk1 + 1 + 1), Value.int 3 (tk1 + 1 + 1 + 1)] 0) :: (I, it) :: nx ∧ (∀ p ∈ nx, p.1 ≠ I) ∧ AInv _ K rest0 [(Str.ofString "outer", .ref K.ol), (Str.ofString "places", .ref K.pl), (Str.ofString "frames", .ref K.fl), (Str.ofString "many", .int mi mt), (Str.ofString "given_classes", .ref GD), (Str.ofString "second", .int sx tsx), (Str.ofString "with_group", .bool (r2 == 0)), (Str.ofString "word", .str key tkey)] (4 * i + j) m' nx) (by rfl) F3 N3
      ⟨_, rfl, hne, vs, ns, n, go, qo, φ, ex, tc, tt, rfl, hI1, hz1, S1, D1, t0, t1, ?kn⟩ ?hJ2 ?turn2 ?done2
    case kn => kst_all
    case hJ2 =>
      rintro j m' nx2 ⟨nx, rfl, _⟩
      exact .head _
    case turn2 =>
      clear hI1 hz1 S1 D1 t0 t1 hk1 hne
      rintro I2 j v m₂ nx2 h5 tk3 it2 hj hv2 ⟨nx3, rfl, hneI, vs, ns, n, go, qo, φ, ex, tc, tt, rfl, hI1, hz1, S1, D1, t0, t1, hk2⟩ hIn2 hne2 F4 N4
      replace F4 := fr_knowX hk2 F4
      clear F3 N3
      have hj4 : j < 4 := hj
      obtain ⟨a, ta, rfl, ha⟩ := ats_of hj hv2
      have oI2 : OffK K I2 := off_dyn fun p hp => hne2 p (.tail _ (.tail _ hp))
      obtain ⟨g, q, e, d, es, en, np, nf, pls, fls, gob, qob, kv, kq, ot, hga, hqa, hsub, hpre, oc, og, oq, ngc, nqc, ngq, mcell', mpl, mfl, ipl, ifl, me, md, hfr, sg, sq, ig, iq, hFI, hNI, lv, lq, rfl, rfl, hback⟩ :=
        AInv.open (pre := [(I2, it2), (D2, listOf #[Value.int 2 tk1, Value.int 1 (tk1 + 1), Value.int 0 (tk1 + 1 + 1), Value.int 3 (tk1 + 1 + 1 + 1)] 0), (I, it)]) S1 D1 ha
          (fun p hp => by
            rcases List.mem_cons.mp hp with rfl | hp
            · exact oI2
            · rcases List.mem_cons.mp hp with rfl | hp
              · exact oD2
              · rw [List.mem_singleton.mp hp]; exact oI) (listOf (List.toArray vs) n)
      have N5 := fun p hp => N4 p (hsub p hp)
      have oc3 : ∀ p ∈ ((g, go a) :: (q, qo a) :: ot : Led), p.1 ≠ K.c := fun p hp => by
        rcases List.mem_cons.mp hp with rfl | hp
        · exact ngc
        · rcases List.mem_cons.mp hp with rfl | hp
          · exact nqc
          · exact oc p hp
      rw [‹K.cl = _›] at mcell'
      clear N4
      have hk0 : (0 : Int) ≤ (a : Nat) := by omega
      have hk4 : ((a : Nat) : Int) < 4 := by omega
      generalize hva : ((a : Nat) : Int) = va at *
      dsimp only [kstB] at F4 N5 ⊢
      with_reducible show wpAny _ _ _ _ _ _
      k_fold
      k_steps
      refine Hold.go ?_
      refine take_okU (by k_asm) (by k_asm) (by k_asm) N5 (by k_asm) (by rfl) (by decide) (by decide) (.head oc3) hI1 (by omega) (by decide) (by decide) (fun r tr vs' ns' n' h' tk' hr0 hr1 hI2 hz2 F5 N6 => ?_)
      have hz2 := Nat.le_trans hz2 hz1
      clear N5
      k_steps
      iterate 2
        · refine Hold.go ?_
          refine builtin_ok (by k_asm) (by k_asm) (by k_asm) (by k_asm) (by k_asm) (by rfl) (by decide) (by decide) (fun x dx es' n'' h6 tk6 lx1 lx2 hF F6 N6 => ?_)
          have lxr := lx1
          k_lt lx1
          k_lt2 lx2
          have hI2m := hpre _ (.head _)
          have hIm := hpre _ (.tail _ (.tail _ (.head _)))
          have hx1 := exOff (hback _ _ _) (.tail _ (.tail _ (.tail _ hI2m))) (.tail _ (.tail _ (.tail _ hIm))) lxr
          have hx2 := exOff (hback _ _ _) (.tail _ (.tail _ (.tail _ hI2m))) (.tail _ (.tail _ (.tail _ hIm))) (fun p hp => Nat.lt_trans (lxr p hp) lx2)
          k_steps
          refine Hold.go ?_
          (rename News _ _ _ _ => N7; rename Fr _ _ _ _ => F7)
          refine turn_close (ex2 := [(x, _), (dx, _)]) F7 N7 hpre (hback _ _ _) hne2 (ex_two (P := fun y => y ≠ I2 ∧ y ≠ I) hx2.2 hx1.2) hneI (AInv.next (T := 4 * i + j) S1 D1 (ex_two (P := OffK K) hx2.1 hx1.1) (by assumption) (by assumption) (FrameIn.set hFI.more (hF.mono fun p hp => List.mem_append.mpr (.inl hp))) (NamesIn.setFn hNI (mname_ne _).1 (mname_ne _).2) (stored_le lv) (stored_le lq) ha (fun h => h.set (decS_ok (by omega) (by omega))) hI2 hz2 (tc := tc + 1) (by omega) (by omega) (knows_cons (by with_unfolding_all rfl) ?_))
          kst_all
      · refine Hold.go ?_
        rename (_ < _ ∧ _ < _ ∧ _ < _ ∧ AllLt _ ot) => l4
        have hI2m := hpre _ (.head _)
        have hIm := hpre _ (.tail _ (.tail _ (.head _)))
        have hx3 := exOff (hback _ _ _) (.tail _ (.tail _ (.tail _ hI2m))) (.tail _ (.tail _ (.tail _ hIm))) (allLt_mem (l := (K.c, listOf (List.toArray vs') n') :: (g, go a) :: (q, qo a) :: ot) l4)
        refine vector_ok (by k_asm) (by k_asm) (by k_asm) (by k_asm) (by k_asm) (by rfl) (by decide) (by decide) (fun x dx es' n'' h6 tk6 lx1 lx2 hF F6 N6 => ?_)
        have lxr := fun p hp => lx1 p (.tail _ hp)
        k_lt lx1
        k_lt2 lx2
        have hx1 := exOff (hback _ _ _) (.tail _ (.tail _ (.tail _ hI2m))) (.tail _ (.tail _ (.tail _ hIm))) lxr
        have hx2 := exOff (hback _ _ _) (.tail _ (.tail _ (.tail _ hI2m))) (.tail _ (.tail _ (.tail _ hIm))) (fun p hp => Nat.lt_trans (lxr p hp) lx2)
        k_steps
        refine Hold.go ?_
        (rename News _ _ _ _ => N7; rename Fr _ _ _ _ => F7)
        refine turn_close (ex2 := [(x, _), (dx, _), (_, _)]) F7 N7 hpre (hback _ _ _) hne2 (ex_three (P := fun y => y ≠ I2 ∧ y ≠ I) hx2.2 hx1.2 hx3.2) hneI (AInv.next (T := 4 * i + j) S1 D1 (ex_three (P := OffK K) hx2.1 hx1.1 hx3.1) (by assumption) (by assumption) (FrameIn.set hFI.more (hF.mono fun p hp => ?hmem)) (NamesIn.setVal hNI) (stored_le lv) (stored_le lq) ha (fun h => h.setVal) hI2 hz2 t0 (by omega) (knows_cons (by with_unfolding_all rfl) ?kn3))
        case kn3 => kst_all
        case hmem =>
          rcases List.mem_cons.mp hp with rfl | hp
          · exact .head _
          · rw [List.mem_singleton.mp hp]; exact .tail _ (.head _)
      · refine Hold.go ?_
        (rename News _ _ _ _ => N7; rename Fr _ _ _ _ => F7)
        have hback' := hback (listOf (List.toArray vs') n') (go a) (qo a)
        rw [upd_self, upd_self] at hback'
        refine turn_close (ex2 := []) F7 N7 hpre hback' hne2 (fun _ hp => nomatch hp) hneI (AInv.same (T := 4 * i + j) S1 D1 hI2 hz2 t0 (by omega) (knows_cons (by with_unfolding_all rfl) ?_))
        kst_all
    case done2 =>
      rintro m₂ nx2 h5 tk3 ⟨nx3, rfl, hneI, hA⟩ F4 N4
      clear F3 N3
      dsimp only
      with_reducible show wpAny _ _ _ _ _ _
      k_steps
      refine Hold.go ?_
      (rename News _ _ _ _ => N7; rename Fr _ _ _ _ => F7)
      refine GEnd.intro nx3 F7 N7 (.tail _ (.head _)) (fun p hp => .tail _ (.tail _ hp)) hneI (AInv.forget hA ?_)
      intro p hp
      simp only [List.mem_cons, List.mem_nil_iff, or_false] at hp ⊢
      rcases hp with rfl | rfl | rfl | rfl | rfl | rfl | rfl <;> simp
  rintro m₁ nx1 h3 tk1 hA F2 N2
  obtain ⟨φ, qo, R, hk1, hin⟩ := hA.ready
  have hGD := hin _ hDm
  replace F2 := fr_know hk1 F2
  clear F N9 J0 hA
  dsimp only [kstB] at F2 N2 ⊢
  with_reducible show wpAny _ _ _ _ _ _
  k_steps
  repeat revert ‹_›
  exact fun h => h.out)
def law8 := fun (walk : Box _) => (show PySem.Challenge.rw_ov0049_01.Holds from by
  k_with_none
  w_top off
  k_with "call ref" => (refine Hold.of ?_)
  k_with "subscriptTail" => (k_here; (with_reducible show wpAny _ _ (subscriptTail _ _ (Value.ref _) (Value.int _ _)) _ _ _); k_dflt (refine' item_led ?k1 ?k2 ?k3 ?k4 ?k5 ?_ ?k6; (case k1 => k_asm); (case k2 => k_mem); (case k5 => assumption); (case k3 => omega); (case k4 => omega); (case k6 => with_unfolding_all rfl)))
  k_with "exec For Name Call cons nil" => (k_here; (rename Fr _ _ _ _ => lF'); (with_unfolding_all refine' For_invVF lF' ?k1 ?k2 ?_; (case k1 => exact rfl); (case k2 => exact rfl); k_whole))
  k_with "pyIter ref" => (refine Hold.of ?_)
  k_with "ROPost" => (refine Hold.of ?_)
  k_with "call builtin:str.split" => (k_here; k_dflt (refine split_two (by k_asm) (by k_asm) (by assumption) (by omega) ?_); intro _ _ _ _ _ lSp _ _; (try k_lt lSp))
  k_with "eval IfExp" => (refine Hold.of ?_)
  refine law7 (.mk ?_)
  k_fill
  set_option tactic.hygienic false in intros
  refine Hold.go ?_
  (rename Cfg => K; rename News _ _ _ _ => N; rename Fr _ _ _ _ => F; rename Ready _ _ _ _ _ => R)
  refine words_ok (by k_asm) (by k_asm) (by k_asm) (by k_asm) (by k_asm) (by rfl) (by decide) (by decide) (fun W2 nW2 ws2 h2 tk2 hW2 hWs2 F3 N3 => ?_)
  clear F N
  k_steps
  refine Hold.go ?_
  have mpl := R.pl
  refine iter_listRO _ _ (fun i m' => Knows m' [(Str.ofString "outer", .ref K.ol), (Str.ofString "places", .ref K.pl), (Str.ofString "frames", .ref K.fl), (Str.ofString "many", .int mi mt), (Str.ofString "given_classes", .ref GD), (Str.ofString "second", .int sx tsx), (Str.ofString "with_group", .bool (r2 == 0))]) (by rfl) F3 N3 (.head _) ?kn ?turn ?done
  case kn => kst_all
  case turn =>
    rintro I i v m₁ h tk1 it hi hv hk1 hIn F2 N2
    replace F2 := fr_knowX hk1 F2
    clear F3 N3
    rw [List.size_toArray] at hi
    obtain ⟨key, tkey, hcv, hkc'⟩ := strs_at hWs2 i hi
    have hkey := word_len hkc'
    rw [List.getElem?_toArray] at hv
    rw [hcv] at hv
    cases hv
    obtain ⟨hd1, tl1, hsp, hkeq, hl1, hl2⟩ := word_split hkc'
    subst hkeq
    dsimp only [kstB] at F2 N2 ⊢
    with_reducible show wpAny _ _ _ _ _ _
    k_fold
    k_steps
    refine Hold.go ?_
    (rename News _ _ _ _ => N3; rename Fr _ _ _ _ => F3; rename IsRange _ _ _ _ _ _ _ _ => rgX)
    refine iter_rangeRO (n := 4) (fun j m' => Knows m' [(Str.ofString "outer", .ref K.ol), (Str.ofString "places", .ref K.pl), (Str.ofString "frames", .ref K.fl), (Str.ofString "many", .int mi mt), (Str.ofString "given_classes", .ref GD), (Str.ofString "second", .int sx tsx), (Str.ofString "with_group", .bool (r2 == 0)), (Str.ofString "word", .str (hd1 ++ Str.ofString "." ++ tl1) tkey)]) (by rfl) rgX (by decide) (by rfl) F3 N3 ?kn2 ?turn2 ?done2
    case kn2 => kst_all
    case turn2 =>
      rintro I2 j t m₂ h5 tk5 it2 hj hk2 hIn2 F4 N4
      rw [Int.zero_add] at F4
      replace F4 := fr_knowX hk2 F4
      clear F3 N3
      have hpj := at4 (f := K.e) hj
      dsimp only [kstB] at F4 N4 ⊢
      with_reducible show wpAny _ _ _ _ _ _
      k_fold
      k_steps
      refine Hold.go ?_
      refine find_ok (by k_asm) (by k_asm) (by k_asm) (by k_asm) (by k_asm) (by rfl) (by decide) (by decide) ((R.env j hj).mono (by intro p hp; repeat (first | exact hp | refine List.mem_cons_of_mem _ ?_))) (by omega) (by omega) (fun r news5 h6 tk6 hr hs5 F5 N5 => ?_)
      k_steps
      refine Hold.go ?_
      refine name_ok (by k_asm) (by k_asm) (by k_asm) (by k_asm) (by k_asm) (by rfl) (by decide) (by decide) (hr.mono hs5) (fun t6 h7 tk7 F6 N6 => ?_)
      k_steps
      refine Hold.go ?_
      refine plain_R (by k_asm) (by k_asm) (by k_asm) (by k_asm) (by k_asm) (by rfl) (by decide) (by decide) R (fun p hp => hs5 p (by repeat (first | exact hp | refine List.mem_cons_of_mem _ ?_))) (by omega) (by omega) (fun t8 news8 h8 tk8 hs8 F8 N8 => ?_)
      k_steps
      · exfalso
        rename ((_ != _) = true) => hb
        simp at hb
      · refine Hold.go ?_
        (rename News _ _ _ _ => N9; rename Fr _ _ _ _ => F9)
        refine ROEnd.intro F9 N9 (fun p hp => hs8 _ (hs5 _ (.tail _ hp))) ?_
        kst_all
    case done2 =>
      rintro m₂ h5 tk5 hk2 F4 N4
      replace F4 := fr_know hk2 F4
      clear F3 N3
      dsimp only [kstB] at F4 N4 ⊢
      with_reducible show wpAny _ _ _ _ _ _
      k_steps
      refine Hold.go ?_
      (rename News _ _ _ _ => N9; rename Fr _ _ _ _ => F9)
      refine ROEnd.intro F9 N9 (fun p hp => hp) ?_
      kst_all
  rintro m₁ h4 tk4 hk1 F2 N2
  replace F2 := fr_know hk1 F2
  clear F3 N3
  dsimp only [kstB] at F2 N2 ⊢
  with_reducible show wpAny _ _ _ _ _ _
  k_steps
  repeat revert ‹_›
  exact fun h => h.out)
def law9 := fun (walk : Box _) => (show PySem.Challenge.rw_ov0049_01.Holds from by
  k_with_none
  w_top off
  k_with "call ref" => (refine Hold.of ?_)
  k_with "exec For Name Call cons nil" => (k_here; (rename Fr _ _ _ _ => lF'); (with_unfolding_all refine' For_invVF lF' ?k1 ?k2 ?_; (case k1 => exact rfl); (case k2 => exact rfl); k_whole))
  k_with "pyIter ref" => (refine Hold.of ?_)
  k_with "call builtin:len" => (k_here; (with_reducible show wpAny _ _ (call (Value.builtin "len") [Value.ref _]) _ _ _); k_dflt (refine' kst_len ?k1 ?k2 rfl ?k4 ?_; (case k1 => k_asm); (case k2 => k_mem); (case k4 => omega)))
  refine law8 (.mk ?_)
  k_fill
  set_option tactic.hygienic false in intros
  refine Hold.go ?_
  (rename Cfg => K; rename News _ _ _ _ => N; rename Fr _ _ _ _ => F; rename Ready _ _ _ _ _ => R)
  refine cut_val F (fun v nx' => ∃ D hvs, v = .ref D ∧ nx' = (D, listOf (List.toArray hvs) 0) :: (W2, listOf (List.toArray ws2) nW2) :: nx1 ∧ StrsAre hvs (headsOf (r2 == 0))) ?cutA ?_
  case cutA =>
    k_steps
    · refine Hold.go ?_
      rename (r2 = 0) => hb
      (rename News _ _ _ _ => N9; rename Fr _ _ _ _ => F9)
      refine ⟨_, _, _, rfl, F9, N9, _, _, rfl, rfl, ?_⟩
      rw [show (r2 == 0) = true from beq_iff_eq.mpr hb]
      exact .cons _ _ (.cons _ _ .nil)
    · refine Hold.go ?_
      rename (r2 ≠ 0) => hb
      (rename News _ _ _ _ => N9; rename Fr _ _ _ _ => F9)
      refine ⟨_, _, _, rfl, F9, N9, _, _, rfl, rfl, ?_⟩
      rw [show (r2 == 0) = false from beq_eq_false_iff_ne.mpr hb]
      exact .cons _ _ .nil
  rintro _ hA tkA nxA FA NA ⟨HD, hvs, rfl, rfl, hHS⟩
  clear F N
  k_steps
  repeat revert ‹_›
  exact fun h => h.out)
def law10 := fun (walk : Box _) => (show PySem.Challenge.rw_ov0049_01.Holds from by
  k_with_none
  w_top off
  k_with "call ref" => (refine Hold.of ?_)
  k_with "exec For Name Name cons nil" => (k_here; (rename Fr _ _ _ _ => lF'); (with_unfolding_all refine' For_invVF lF' ?k1 ?k2 ?_; (case k1 => exact rfl); (case k2 => exact rfl); k_whole))
  k_with "exec For Name List cons nil" => (k_here; (rename Fr _ _ _ _ => lF'); (with_unfolding_all refine' For_invVF lF' ?k1 ?k2 ?_; (case k1 => exact rfl); (case k2 => exact rfl); k_whole))
  k_with "pyIter ref" => (refine Hold.of ?_)
  k_with "GPost" => (refine Hold.of ?_)
  k_with "subscriptTail" => (k_here; (with_reducible show wpAny _ _ (subscriptTail _ _ (Value.ref _) (Value.int _ _)) _ _ _); k_dflt (refine' item_led ?k1 ?k2 ?k3 ?k4 ?k5 ?_ ?k6; (case k1 => k_asm); (case k2 => k_mem); (case k5 => assumption); (case k3 => omega); (case k4 => omega); (case k6 => with_unfolding_all rfl)))
  k_with "eval IfExp" => (refine Hold.of ?_)
  refine law9 (.mk ?_)
  k_fill
  set_option tactic.hygienic false in intros
  refine Hold.go ?_
  (rename Cfg => K; rename News _ _ _ _ => N; rename Fr _ _ _ _ => F; rename Ready _ _ _ _ _ => R; rename IsRange _ _ _ _ _ _ _ _ => rgX; rename StrsAre gys _ => hKs)
  obtain ⟨chs, hchs⟩ : ∃ c, c = [chainOf (φ 0) (φ 1) (φ 2) (φ 3) 2, chainOf (φ 0) (φ 1) (φ 2) (φ 3) sx] := ⟨_, rfl⟩
  obtain ⟨full, hfull⟩ : ∃ f, f = hitP chs (headsOf (r2 == 0)) 0 gks := ⟨_, rfl⟩
  obtain ⟨BASE, hBASE⟩ : ∃ B : Led, B = (HD, listOf (List.toArray hvs) 0) :: (W2, listOf (List.toArray ws2) nW2) :: nx1 := ⟨_, rfl⟩
  have mHD : (HD, listOf (List.toArray hvs) 0) ∈ BASE := by rw [hBASE]; exact .head _
  have mGD : (GD, listOf (List.toArray gys) gys.length) ∈ BASE := by rw [hBASE]; exact .tail _ (.tail _ hGD)
  have RB := R.mono (nx' := BASE) (by intro p hp; rw [hBASE]; exact .tail _ (.tail _ hp))
  rw [← hBASE] at N
  have hks4 := hKs.length
  refine iter_rangeG (n := gys.length) (fun i m' nx => ∃ D d u1 u2, nx = (d, pairOf (duI D) u1 (.str (duS D) u2)) :: BASE ∧ D.or (hitP chs (headsOf (r2 == 0)) i (gks.drop i)) = full ∧ Knows m' [(Str.ofString "outer", .ref K.ol), (Str.ofString "places", .ref K.pl), (Str.ofString "frames", .ref K.fl), (Str.ofString "many", .int mi mt), (Str.ofString "given_classes", .ref GD), (Str.ofString "second", .int sx tsx), (Str.ofString "with_group", .bool (r2 == 0)), (Str.ofString "heads", .ref HD), (Str.ofString "due", .ref d)]) (by rfl) rgX (small_one (by omega) (by omega) (by omega) (by omega)) ((rangeSize_nat _ _).trans (by omega)) F N ⟨none, _, _, _, rfl, hfull.symm, ?kn⟩ ?turn ?done
  case kn => kst_all
  case turn =>
    rintro I1 i ti m₁ nx h5 tk5 it1 hi ⟨D, d, u1, u2, rfl, hinv, hk1⟩ hIn1 hne1 F1 N1
    rw [Int.zero_add] at F1
    replace F1 := fr_knowX hk1 F1
    clear F N
    obtain ⟨c, tc, hcv, hkc⟩ := strs_at hKs i hi
    have hinv := inv_spot hkc hinv
    have hcl := letter_len (hLet c (List.mem_of_getElem? hkc))
    have hcv' : gys[((i : Nat) : Int).toNat]? = some (.str c tc) := hcv
    have hi' : ((i : Nat) : Int) < 4 := by omega
    dsimp only [kstB] at F1 N1 ⊢
    with_reducible show wpAny _ _ _ _ _ _
    k_fold
    k_steps
    refine Hold.go ?_
    (rename News _ _ _ _ => N2; rename Fr _ _ _ _ => F2)
    refine iter_listG (List.toArray hvs) 0 (fun j m' nx => ∃ D d u1 u2, nx = (d, pairOf (duI D) u1 (.str (duS D) u2)) :: (I1, it1) :: BASE ∧ (@Ne Nat d I1) ∧ D.or (((hitH chs ((headsOf (r2 == 0)).drop j) c).map fun nm => (i, nm)).or (hitP chs (headsOf (r2 == 0)) (i + 1) (gks.drop (i + 1)))) = full ∧ Knows m' [(Str.ofString "outer", .ref K.ol), (Str.ofString "places", .ref K.pl), (Str.ofString "frames", .ref K.fl), (Str.ofString "many", .int mi mt), (Str.ofString "given_classes", .ref GD), (Str.ofString "second", .int sx tsx), (Str.ofString "with_group", .bool (r2 == 0)), (Str.ofString "heads", .ref HD), (Str.ofString "due", .ref d), (Str.ofString "spot", .int ((i : Nat) : Int) ti)]) (by rfl) F2 (kst_newsOf N2 (by kst_inAny)) ⟨D, d, u1, u2, rfl, hne1 _ (.head _), hinv, ?kn⟩ ?hJ2 ?turn2 ?done2
    case kn => kst_all
    case hJ2 =>
      rintro j m' nx ⟨D, d, u1, u2, rfl, _⟩
      exact .tail _ (.tail _ mHD)
    case turn2 =>
      clear hinv hk1
      rintro I2 j v m₂ nx h6 tk6 it2 hj hv ⟨D, d, u1, u2, rfl, hd1, hinv, hk2⟩ hIn2 hne2 F3 N3
      replace F3 := fr_knowX hk2 F3
      clear F2 N2
      rw [List.size_toArray] at hj
      obtain ⟨hh, th, hhv, hhk⟩ := strs_at hHS j hj
      rw [List.getElem?_toArray] at hv
      rw [hhv] at hv
      cases hv
      obtain ⟨hhn, hhl⟩ := heads_ok (List.mem_of_getElem? hhk)
      have hinv := inv_head hhk hhn hinv
      dsimp only [kstB] at F3 N3 ⊢
      with_reducible show wpAny _ _ _ _ _ _
      k_fold
      k_steps
      refine Hold.go ?_
      rename_i D3 h7 F4 N4 l3
      refine iter_listG #[Value.int 2 tk6, Value.int sx tsx] 0 (fun l m' nx => ∃ D d u1 u2, nx = (d, pairOf (duI D) u1 (.str (duS D) u2)) :: (D3, listOf #[Value.int 2 tk6, Value.int sx tsx] 0) :: (I2, it2) :: (I1, it1) :: BASE ∧ (@Ne Nat d I1) ∧ (@Ne Nat d I2) ∧ D.or (((hitC (chs.drop l) (hh ++ Str.ofString "." ++ c)).map fun nm => (i, nm)).or (((hitH chs ((headsOf (r2 == 0)).drop (j + 1)) c).map fun nm => (i, nm)).or (hitP chs (headsOf (r2 == 0)) (i + 1) (gks.drop (i + 1))))) = full ∧ Knows m' [(Str.ofString "outer", .ref K.ol), (Str.ofString "places", .ref K.pl), (Str.ofString "frames", .ref K.fl), (Str.ofString "many", .int mi mt), (Str.ofString "given_classes", .ref GD), (Str.ofString "second", .int sx tsx), (Str.ofString "with_group", .bool (r2 == 0)), (Str.ofString "heads", .ref HD), (Str.ofString "due", .ref d), (Str.ofString "spot", .int ((i : Nat) : Int) ti), (Str.ofString "head", .str hh th)]) (by rfl) F4 (kst_newsOf N4 (by kst_inAny)) ⟨D, d, u1, u2, rfl, hd1, hne2 _ (.head _), hinv, ?kn⟩ ?hJ3 ?turn3 ?done3
      case kn => kst_all
      case hJ3 =>
        rintro j m' nx ⟨D, d, u1, u2, rfl, _⟩
        exact .tail _ (.head _)
      case turn3 =>
        clear hinv hk2 hd1
        rintro I3 l v m₃ nx h8 tk8 it3 hl hv ⟨D, d, u1, u2, rfl, hd1, hd2, hinv, hk3⟩ hIn3 hne3 F5 N5
        replace F5 := fr_knowX hk3 F5
        clear F4 N4
        have hv2 : ∃ a ta, v = .int a ta ∧ 0 ≤ a ∧ a ≤ 3 ∧ chs[l]? = some (chainOf (φ 0) (φ 1) (φ 2) (φ 3) a) := by
          have hl2 : l = 0 ∨ l = 1 := by simp only [List.size_toArray, List.length_cons, List.length_nil] at hl; omega
          rcases hl2 with rfl | rfl
          · cases hv; exact ⟨_, _, rfl, by decide, by decide, by rw [hchs]; rfl⟩
          · cases hv; exact ⟨_, _, rfl, by assumption, by assumption, by rw [hchs]; rfl⟩
        obtain ⟨a, ta, rfl, ha0, ha3, hch⟩ := hv2
        have hinv := inv_env hch hinv
        dsimp only [kstB] at F5 N5 ⊢
        with_reducible show wpAny _ _ _ _ _ _
        k_fold
        k_steps
        refine Hold.go ?_
        refine plain_R (by k_asm) (by k_asm) (by k_asm) (by k_asm) (by k_asm) (by rfl) (by decide) (by decide) RB (by intro p hp; repeat (first | exact hp | refine List.mem_cons_of_mem _ ?_)) ha0 ha3 (fun t8 news8 h9 tk9 hs8 F8 N8 => ?_)
        have md8 := hs8 _ (.tail _ (.head _))
        k_steps
        · refine Hold.go ?_
          (rename News _ _ _ _ => N9; rename Fr _ _ _ _ => F9; rename ((_ != _) = true) => hb; rename (duI D < 0) => hlt; rename (∀ p, p ∈ news8 → _ < _) => l9)
          obtain ⟨e1, e2⟩ := stepD_some (i := i) (f := findS (chainOf (φ 0) (φ 1) (φ 2) (φ 3) a) (hh ++ Str.ofString "." ++ c)) (duI_neg.mp hlt) (by simpa using hb)
          rw [← e2, ← e1] at N9
          have mI3 := hs8 (I3, it3) (.head _)
          have mI2 := hs8 (I2, it2) (.tail _ (.tail _ (.tail _ (.head _))))
          have mI1 := hs8 (I1, it1) (.tail _ (.tail _ (.tail _ (.tail _ (.head _)))))
          refine GEnd.intro ((_, pairOf (duI (stepD D i _)) ti (.str (duS (stepD D i _)) t8)) :: (D3, listOf #[Value.int 2 tk6, Value.int sx tsx] 0) :: (I2, it2) :: (I1, it1) :: BASE) F9 N9 (.tail _ mI3) (fun p hp => ?_) (fun p hp => ?_) ⟨stepD D i _, _, ti, t8, rfl, Nat.ne_of_gt (l9 _ mI1), Nat.ne_of_gt (l9 _ mI2), hinv, ?_⟩
          · rcases List.mem_cons.mp hp with rfl | hp
            · exact .head _
            · exact .tail _ (hs8 _ (.tail _ (.tail _ hp)))
          · rcases List.mem_cons.mp hp with rfl | hp
            · exact Nat.ne_of_gt (l9 _ mI3)
            · exact hne3 p (.tail _ hp)
          kst_all
        · refine Hold.go ?_
          (rename News _ _ _ _ => N9; rename Fr _ _ _ _ => F9; rename (¬ duI D < 0) => hlt)
          rw [stepD_old (fun e => hlt (duI_neg.mpr e))] at hinv
          refine GEnd.intro ((d, pairOf (duI D) u1 (.str (duS D) u2)) :: (D3, listOf #[Value.int 2 tk6, Value.int sx tsx] 0) :: (I2, it2) :: (I1, it1) :: BASE) F9 N9 (hs8 _ (.head _)) (fun p hp => hs8 _ (.tail _ hp)) (fun p hp => hne3 p hp) ⟨D, d, u1, u2, rfl, hd1, hd2, hinv, ?_⟩
          kst_all
        · refine Hold.go ?_
          (rename News _ _ _ _ => N9; rename Fr _ _ _ _ => F9; rename ((_ != _) = false) => hb)
          rw [stepD_none (fun nm e => R.ne e) (by simpa using hb)] at hinv
          refine GEnd.intro ((d, pairOf (duI D) u1 (.str (duS D) u2)) :: (D3, listOf #[Value.int 2 tk6, Value.int sx tsx] 0) :: (I2, it2) :: (I1, it1) :: BASE) F9 N9 (hs8 _ (.head _)) (fun p hp => hs8 _ (.tail _ hp)) (fun p hp => hne3 p hp) ⟨D, d, u1, u2, rfl, hd1, hd2, hinv, ?_⟩
          kst_all
      case done3 =>
        rintro m₃ nx h8 tk8 ⟨D, d, u1, u2, rfl, hd1, hd2, hinv, hk3⟩ F5 N5
        replace F5 := fr_know hk3 F5
        clear F4 N4
        have e0 : hitC (chs.drop 2) (hh ++ Str.ofString "." ++ c) = none := by rw [hchs]; rfl
        have hinv' : D.or (((hitC (chs.drop 2) (hh ++ Str.ofString "." ++ c)).map fun nm => (i, nm)).or (((hitH chs ((headsOf (r2 == 0)).drop (j + 1)) c).map fun nm => (i, nm)).or (hitP chs (headsOf (r2 == 0)) (i + 1) (gks.drop (i + 1))))) = full := hinv
        rw [e0] at hinv'
        dsimp only [kstB] at F5 N5 ⊢
        with_reducible show wpAny _ _ _ _ _ _
        k_steps
        refine Hold.go ?_
        (rename News _ _ _ _ => N9; rename Fr _ _ _ _ => F9)
        refine GEnd.intro ((d, pairOf (duI D) u1 (.str (duS D) u2)) :: (I1, it1) :: BASE) F9 N9 (.tail _ (.tail _ (.head _))) (fun p hp => ?_) (fun p hp => ?_) ⟨D, d, u1, u2, rfl, hd1, hinv', ?_⟩
        · rcases List.mem_cons.mp hp with rfl | hp
          · exact .head _
          · exact .tail _ (.tail _ (.tail _ hp))
        · rcases List.mem_cons.mp hp with rfl | hp
          · exact hd2
          · exact hne2 p (.tail _ hp)
        kst_all
    case done2 =>
      rintro m₂ nx h6 tk6 ⟨D, d, u1, u2, rfl, hd1, hinv, hk2⟩ F3 N3
      replace F3 := fr_know hk2 F3
      clear F2 N2
      have e0 : (headsOf (r2 == 0)).drop (List.toArray hvs).size = [] := by rw [List.size_toArray, hHS.length]; exact List.drop_length
      rw [e0] at hinv
      dsimp only [kstB] at F3 N3 ⊢
      with_reducible show wpAny _ _ _ _ _ _
      k_steps
      refine Hold.go ?_
      (rename News _ _ _ _ => N9; rename Fr _ _ _ _ => F9)
      refine GEnd.intro ((d, pairOf (duI D) u1 (.str (duS D) u2)) :: BASE) F9 N9 (.tail _ (.head _)) (fun p hp => ?_) (fun p hp => ?_) ⟨D, d, u1, u2, rfl, hinv, ?_⟩
      · rcases List.mem_cons.mp hp with rfl | hp
        · exact .head _
        · exact .tail _ (.tail _ hp)
      · rcases List.mem_cons.mp hp with rfl | hp
        · exact hd1
        · exact hne1 p (.tail _ hp)
      kst_all
  rintro m₁ nx h5 tk5 ⟨DU, dd, du1, du2, rfl, hinv, hk1⟩ F1 N1
  replace F1 := fr_know hk1 F1
  clear F N
  have e0 : gks.drop gys.length = [] := by rw [hks4]; exact List.drop_length
  rw [e0] at hinv
  have hDf : DU = full := by rw [← hinv]; exact (Option.or_none).symm
  subst hDf
  clear hinv
  dsimp only [kstB] at F1 N1 ⊢
  with_reducible show wpAny _ _ _ _ _ _
  k_steps
  repeat revert ‹_›
  exact fun h => h.out)
def law11 := fun (walk : Box _) => (show PySem.Challenge.rw_ov0049_01.Holds from by
  k_with_none
  w_top off
  k_with "call ref" => (refine Hold.of ?_)
  k_with "subscriptTail" => (k_here; (with_reducible show wpAny _ _ (subscriptTail _ _ (Value.ref _) (Value.int _ _)) _ _ _); k_dflt (refine' item_led ?k1 ?k2 ?k3 ?k4 ?k5 ?_ ?k6; (case k1 => k_asm); (case k2 => k_mem); (case k5 => assumption); (case k3 => omega); (case k4 => omega); (case k6 => with_unfolding_all rfl)))
  k_with "compareOp NotEq ref ref" => (refine Hold.of ?_)
  refine law10 (.mk ?_)
  k_fill
  set_option tactic.hygienic false in intros
  refine Hold.go ?_
  (rename Cfg => K; rename News _ _ _ _ => N; rename Fr _ _ _ _ => F)
  refine cut_val F (fun v nx' => ∃ t, v = .str (groupOf (r2 == 0)) t ∧ nx' = (dd, pairOf (duI DU) du1 (.str (duS DU) du2)) :: BASE) ?cutA ?_
  case cutA =>
    k_steps
    · refine Hold.go ?_
      rename (r2 = 0) => hb
      rw [show groupOf (r2 == 0) = Str.ofString "Shapes" by rw [show (r2 == 0) = true from beq_iff_eq.mpr hb]; rfl]
      exact ⟨_, _, _, rfl, F, N, _, rfl, rfl⟩
    · refine Hold.go ?_
      rename (r2 ≠ 0) => hb
      rw [show groupOf (r2 == 0) = Str.ofString "" by rw [show (r2 == 0) = false from beq_eq_false_iff_ne.mpr hb]; rfl]
      exact ⟨_, _, _, rfl, F, N, _, rfl, rfl⟩
  rintro _ hA tkA nxA FA NA ⟨tgr, rfl, rfl⟩
  clear F N
  have hp2 : [Value.ref (K.e 0), Value.ref (K.e 1), Value.ref (K.e 2), Value.ref (K.e 3)][(2 : Int).toNat]? = some (.ref (K.e 2)) := rfl
  have hps : [Value.ref (K.e 0), Value.ref (K.e 1), Value.ref (K.e 2), Value.ref (K.e 3)][sx.toNat]? = some (.ref (K.e sx.toNat)) := by
    have := at4 (f := K.e) (a := sx.toNat) (by omega)
    rwa [show ((sx.toNat : Nat) : Int).toNat = sx.toNat by omega] at this
  have hsn : ((sx.toNat : Nat) : Int) = sx := by omega
  have mplB := RB.pl
  k_steps
  refine Hold.go ?_
  have hgl : (groupOf (r2 == 0)).length ≤ 50 := by
    cases (r2 == 0) <;> decide +kernel
  have hE2 := RB.env sx.toNat (by omega)
  rw [hsn] at hE2
  have hE1 := RB.env 2 (by decide)
  rw [show ((2 : Nat) : Int) = 2 from rfl] at hE1
  refine first_ok (by k_asm) (by k_asm) (by k_asm) (by k_asm) (by k_asm) (by rfl) (by decide) (by decide) (.head _) (hE1.mono (by intro p hp; repeat (first | exact hp | refine List.mem_cons_of_mem _ ?_))) (hE2.mono (by intro p hp; repeat (first | exact hp | refine List.mem_cons_of_mem _ ?_))) (by decide +kernel) hgl (by decide +kernel) (by k_mem) (by assumption) (by omega) (fun c hc => letter_len (hLet c hc)) (fun ta pl ptk r9 news9 h9 tk9 hm9 hT hs9 F9 N9 => ?_)
  rw [hitP_group, ← hchs, ← hfull] at hT
  obtain ⟨rfl, hr9⟩ := hT.split
  clear hT
  k_steps
  refine Hold.go ?_
  refine name_ok (by k_asm) (by k_asm) (by k_asm) (by k_asm) (by k_asm) (by rfl) (by decide) (by decide) hr9 (fun t6 h7 tk7 F6 N6 => ?_)
  rw [duS_map]
  have md9 := hs9 (dd, pairOf (duI DU) du1 (.str (duS DU) du2)) (.tail _ (.head _))
  k_steps
  repeat revert ‹_›
  exact fun h => h.out)
def law12 := fun (walk : Box _) => (show PySem.Challenge.rw_ov0049_01.Holds from by
  k_with_none
  w_top off
  k_with "call ref" => (refine Hold.of ?_)
  k_with "subscriptTail" => (k_here; (with_reducible show wpAny _ _ (subscriptTail _ _ (Value.ref _) (Value.int _ _)) _ _ _); k_dflt (refine' item_led ?k1 ?k2 ?k3 ?k4 ?k5 ?_ ?k6; (case k1 => k_asm); (case k2 => k_mem); (case k5 => assumption); (case k3 => omega); (case k4 => omega); (case k6 => with_unfolding_all rfl)))
  k_with "exec If" => (k_here; (with_reducible show wpAny _ _ (exec (Stmt.If _ [Stmt.Assign _ _ _] [] _) _) _ _ _); refine Hold.of ?_)
  k_with "subscriptTail" => (k_here; (with_reducible show wpAny _ _ (subscriptTail _ (Expr.BinOp _ _ _ _) (Value.ref _) (Value.int _ _)) _ _ _); refine Hold.of ?_)
  refine law11 (.mk ?_)
  k_fill
  set_option tactic.hygienic false in intros
  refine Hold.go ?_
  (rename Cfg => K; rename News _ _ _ _ => N; rename Fr _ _ _ _ => F)
  have hok : nmOk (duS DU) := duS_ok fun x e => hitP_ok (chs := chs) (hs := headsOf (r2 == 0)) (fun ch hc k nm e => by
    rw [hchs] at hc
    rcases List.mem_cons.mp hc with rfl | hc
    · exact R.ok e
    · rw [List.mem_singleton.mp hc] at e; exact R.ok e) (hfull.symm.trans e)
  refine pair_cmp N (.head _) (.tail _ md9) hok (by first | units_room | exact Nat.le_of_ble_eq_true rfl) ?_
  k_steps
  refine Hold.go ?_
  have hB9 : ∀ p ∈ BASE, p ∈ news9 := fun p hp => hs9 _ (.tail _ (.tail _ hp))
  refine plain_R (by k_asm) (by k_asm) (by k_asm) (by k_asm) (by k_asm) (by rfl) (by decide) (by decide) RB (by intro p hp; first | exact .tail _ (hB9 p hp) | exact hB9 p hp) (by decide) (by decide) (fun t10 news10 h10 tk10 hs10 F10 N10 => ?_)
  have hB10 : ∀ p ∈ BASE, p ∈ news10 := fun p hp => hs10 _ (by first | exact .tail _ (hB9 p hp) | exact hB9 p hp)
  k_steps
  refine Hold.go ?_
  (rename News _ _ _ _ => N; rename Fr _ _ _ _ => F)
  refine cut_flow F (fun m' nx' => (∀ p ∈ BASE, p ∈ nx') ∧ ∃ t, Knows m' [(Str.ofString "outer", .ref K.ol), (Str.ofString "places", .ref K.pl), (Str.ofString "frames", .ref K.fl), (Str.ofString "many", .int mi mt), (Str.ofString "given_classes", .ref GD), (Str.ofString "second", .int sx tsx), (Str.ofString "due", .str ((hitC chs (Str.ofString "draw.default")).getD (Str.ofString "")) t)]) ?cutB ?_
  case cutB =>
    refine wpAny_If ?_
    k_steps
    · refine Hold.go ?_
      rename ((_ == Str.ofString "") = true) => hb
      refine plain_R (by k_asm) (by k_asm) (by k_asm) (by k_asm) (by k_asm) (by rfl) (by decide) (by decide) RB (by intro p hp; exact hB10 p hp) (by omega) (by omega) (fun t11 news11 h11 tk11 hs11 F11 N11 => ?_)
      k_steps
      refine Hold.go ?_
      (rename News _ _ _ _ => N9; rename Fr _ _ _ _ => F9)
      refine ⟨rfl, _, _, _, _, rfl, F9, N9, fun p hp => hs11 _ (hB10 p hp), t11, ?_⟩
      rw [hchs, hitC_two, getD_none (fun nm e => R.ne e) (beq_iff_eq.mp hb), Option.none_or]
      kst_all
    · refine Hold.go ?_
      rename ((_ == Str.ofString "") = false) => hb
      refine ⟨rfl, _, _, _, _, rfl, F, N, hB10, t10, ?_⟩
      rw [hchs, hitC_two, getD_some (by simpa using hb)]
      kst_all
  rintro m12 h12 tk12 nx12 F12 N12 ⟨hB12, t12, hk12⟩
  replace F12 := fr_know hk12 F12
  clear F N
  have mpl12 := hB12 _ RB.pl
  have mGD12 := hB12 _ mGD
  dsimp only [kstB] at F12 N12 ⊢
  k_steps
  refine Hold.go ?_
  refine default_ok (by k_asm) (by k_asm) (by k_asm) (by k_asm) (by k_asm) (by rfl) (by decide) (by decide) (.head _) (hE1.mono (fun p hp => .tail _ (hB12 p hp))) (hE2.mono (fun p hp => .tail _ (hB12 p hp))) (by decide +kernel) (fun r13 news13 h13 tk13 hr13 hs13 F13 N13 => ?_)
  rw [← hchs, draw_default] at hr13
  k_steps
  refine Hold.go ?_
  refine name_ok (by k_asm) (by k_asm) (by k_asm) (by k_asm) (by k_asm) (by rfl) (by decide) (by decide) hr13 (fun t14 h14 tk14 F14 N14 => ?_)
  have mGD13 := hs13 _ (.tail _ mGD12)
  k_steps
  repeat revert ‹_›
  exact fun h => h.out)
def law13 := fun (walk : Box _) => (show PySem.Challenge.rw_ov0049_01.Holds from by
  k_with_none
  w_top off
  k_with "call ref" => (k_here; (with_reducible show wpAny _ _ (call (Value.ref 156) _) _ _ _); refine Hold.of ?_)
  k_with "subscriptTail" => (k_here; (with_reducible show wpAny _ _ (subscriptTail _ (Expr.BinOp _ _ _ _) (Value.ref _) (Value.int _ _)) _ _ _); refine Hold.of ?_)
  k_with "binaryOp Mult ref int" => (k_here; k_dflt (refine mul_none (by k_asm) (by k_asm) (by k_mem) ?_); intro D' o' h' l1 F' N'; (try k_lt l1))
  k_with "compareOp NotEq ref ref" => (refine Hold.of ?_)
  k_with "compareOp Eq ref ref" => (refine Hold.of ?_)
  k_with "binaryOp Add ref ref" => (refine Hold.of ?_)
  refine law12 (.mk ?_)
  k_fill
  set_option tactic.hygienic false in intros
  refine Hold.go ?_
  (rename Cfg => K; rename News _ _ _ _ => N; rename Fr _ _ _ _ => F)
  obtain ⟨k3, hk3⟩ : ∃ k, k = mi.fmod 3 := ⟨_, rfl⟩
  have hk30 : 0 ≤ k3 := hk3 ▸ Int.fmod_nonneg_of_pos _ (by decide)
  have hk33 : k3 < 3 := hk3 ▸ Int.fmod_lt_of_pos _ (by decide)
  rw [← hk3]
  refine item_any (vs := [_, _, _]) (n := 0) N (.head _) hk30 (by omega) hk33 (fun v hv => ?_)
  obtain ⟨tkd, rfl⟩ := kind_at hk30 hk33 hv
  clear hv
  have hKD := kd_of k3
  k_steps
  refine Hold.go ?_
  (rename News _ _ _ _ => N2; rename Fr _ _ _ _ => F2)
  rw [← hk3]
  refine item_any (vs := [_, _, _]) (n := 0) N2 (.head _) hk30 (by omega) hk33 (fun v hv => ?_)
  replace N2 := drop9 N2
  obtain ⟨IL, ivs, iln, rfl, lIL, NI, hIL⟩ := menu_im N2 hk30 hk33 hv (by refine ⟨?_, ?_, ?_⟩ <;> first | omega | (refine allLt_of fun p hp => Nat.lt_trans (l1_5 p hp) ?_; omega)) (by refine ⟨?_, ?_, ?_, ?_⟩ <;> first | omega | (refine allLt_of fun p hp => Nat.lt_trans (l1_5 p hp) ?_; omega)) (by refine ⟨?_, ?_, ?_, ?_, ?_⟩ <;> first | omega | (refine allLt_of fun p hp => Nat.lt_trans (l1_5 p hp) ?_; omega))
  clear hv N2
  simp only [AllLt] at lIL
  k_steps
  refine Hold.go ?_
  refine disp_ok (av := .none) (sh := []) (by k_asm) (by k_asm) (by k_asm) (by k_asm) (by k_asm) (by rfl) (by decide) (by decide) (by k_mem) (by k_mem) (by k_get) (by k_get) hKD .none (fun l1 vs1 c1 h1 tk1 hv1 lt1 F4 N4 => ?_)
  k_steps
  refine Hold.go ?_
  refine strs_ne (by k_asm) (.head _) (.tail _ (.head _)) hv1 hIL hKD.ok (by first | units_room | exact Nat.le_of_ble_eq_true rfl) ?_
  try clear NI
  replace N4 := drop_at0 N4
  clear hv1 lt1
  k_steps
  repeat revert ‹_›
  exact fun h => h.out)
def law14 := fun (walk : Box _) => (show PySem.Challenge.rw_ov0049_01.Holds from by
  k_with_none
  w_top off
  k_with "call ref" => (k_here; (with_reducible show wpAny _ _ (call (Value.ref 156) _) _ _ _); refine Hold.of ?_)
  k_with "subscriptTail" => (k_here; (with_reducible show wpAny _ _ (subscriptTail _ (Expr.BinOp _ _ _ _) (Value.ref _) (Value.int _ _)) _ _ _); refine Hold.of ?_)
  k_with "compareOp NotEq ref ref" => (refine Hold.of ?_)
  k_with "compareOp Eq ref ref" => (refine Hold.of ?_)
  k_with "binaryOp Add ref ref" => (refine Hold.of ?_)
  refine law13 (.mk ?_)
  k_fill
  set_option tactic.hygienic false in intros
  refine Hold.go ?_
  (rename News _ _ _ _ => N5; rename Fr _ _ _ _ => F5; rename Cfg => K)
  obtain ⟨s3, hs3'⟩ : ∃ k, k = sx.fmod 3 := ⟨_, rfl⟩
  have hs30 : 0 ≤ s3 := hs3' ▸ Int.fmod_nonneg_of_pos _ (by decide)
  have hs33 : s3 < 3 := hs3' ▸ Int.fmod_lt_of_pos _ (by decide)
  rw [← hs3']
  refine item_any (vs := [_, _, _]) (n := 0) N5 (.head _) hs30 (by omega) hs33 (fun v hv => ?_)
  obtain ⟨JL, jvs, jln, rfl, lJL, NJ, hJ3, hSH⟩ := menu_dim N5 hs30 hs33 hv (by refine ⟨?_, ?_, ?_, ?_, ?_⟩ <;> first | omega | (refine allLt_of fun p hp => Nat.lt_trans (l1_5 p hp) ?_; omega)) (by refine ⟨?_, ?_, ?_, ?_, ?_, ?_⟩ <;> first | omega | (refine allLt_of fun p hp => Nat.lt_trans (l1_5 p hp) ?_; omega)) (by refine ⟨?_, ?_, ?_, ?_, ?_, ?_, ?_⟩ <;> first | omega | (refine allLt_of fun p hp => Nat.lt_trans (l1_5 p hp) ?_; omega))
  clear hv N5
  simp only [AllLt] at lJL
  k_steps
  refine Hold.go ?_
  (rename News _ _ _ _ => N6; rename Fr _ _ _ _ => F6)
  rw [← hs3']
  refine item_any (vs := [_, _, _]) (n := 0) N6 (.head _) hs30 (by omega) hs33 (fun v hv => ?_)
  obtain ⟨SL, svs, sln, rfl, lSL, NS, hSL⟩ := menu_sh N6 hs30 hs33 hv (by refine ⟨?_, ?_, ?_, ?_, ?_, ?_, ?_, ?_⟩ <;> first | omega | (refine allLt_of fun p hp => Nat.lt_trans (l1_5 p hp) ?_; omega)) (by refine ⟨?_, ?_, ?_, ?_, ?_, ?_, ?_, ?_, ?_⟩ <;> first | omega | (refine allLt_of fun p hp => Nat.lt_trans (l1_5 p hp) ?_; omega)) (by refine ⟨?_, ?_, ?_, ?_, ?_, ?_, ?_, ?_, ?_, ?_⟩ <;> first | omega | (refine allLt_of fun p hp => Nat.lt_trans (l1_5 p hp) ?_; omega))
  clear hv N6
  simp only [AllLt] at lSL
  k_steps
  refine Hold.go ?_
  rename Obj.IsDictOf _ _ (strPairs _) => hdi
  rename ((_ == sysModules) = false) => hsm
  refine disp_ok (sh := shOf s3) (by k_asm) (by k_asm) (by k_asm) (by k_asm) (by k_asm) (by rfl) (by decide) (by decide) (by k_mem) (by k_mem) (by k_get) (by k_get) hKD (.dim (by k_mem) hdi hsm (by rfl) (by rfl) (by k_mem) (by k_mem) (by k_get) (by k_mem) hJ3 hSH) (fun l2 vs2 c2 h2 tk2 hv2 lt2 F8 N8 => ?_)
  k_lt lt2
  k_steps
  refine Hold.go ?_
  refine strs_add (by k_asm) (by k_asm) (.tail _ (.head _)) (by k_mem) hSL hIL (Nat.le_trans hSH.len (by decide)) (Nat.le_trans hKD.len (by decide)) (fun D ws h3 lt3 hws F9 N9 => ?_)
  k_lt lt3
  k_steps
  refine Hold.go ?_
  refine strs_ne (by k_asm) (.tail _ (.head _)) (.head _) hv2 hws (hSH.ok.app hKD.ok) (by first | units_room | exact Nat.le_of_ble_eq_true rfl) ?_
  k_steps
  repeat revert ‹_›
  exact fun h => h.out)
theorem letter_ok {c : Str} (h : Letter c) : nmOk c := by
  rcases h with rfl | rfl | rfl | rfl <;> (unfold nmOk; decide +kernel)
theorem law15 : PySem.Challenge.rw_ov0049_01.Holds := by
  k_with_none
  w_top off
  k_with "call ref" => (k_here; (with_reducible show wpAny _ _ (call (Value.ref 156) _) _ _ _); refine Hold.of ?_)
  k_with "compareOp NotEq ref ref" => (refine Hold.of ?_)
  k_with "compareOp Eq ref ref" => (refine Hold.of ?_)
  refine law14 (.mk ?_)
  k_fill
  set_option tactic.hygienic false in intros
  refine Hold.go ?_
  (rename News _ _ _ _ => N5; rename Fr _ _ _ _ => F5; rename Cfg => K)
  have hgok : AllOk gks := fun c hc => letter_ok (hLet c hc)
  refine strs_ne_nil (by k_asm) (by k_mem) (.head _) hKs hgok (by first | units_room | exact Nat.le_of_ble_eq_true rfl) ?_
  by_cases hg : gks = []
  · rw [decide_eq_false (by simpa using hg)]
    k_steps
  rw [decide_eq_true hg]
  k_steps
  refine Hold.go ?_
  rename Obj.IsDictOf _ _ [_, _] => hdi
  refine dispC_ok (ss := gks) (by k_asm) (by k_asm) (by k_asm) (by k_asm) (by k_asm) (by rfl) (by decide) (by decide) (by k_mem) (by k_mem) (by k_get) (by k_mem) hdi hsm (by rfl) (by k_mem) (by k_mem) (by k_get) (by k_mem) (by omega) hKs (fun l9 vs9 c9 h9 tk9 hv9 lt9 F9 N9 => ?_)
  k_steps
  refine Hold.go ?_
  refine strs_eq (by k_asm) (.head _) (by k_mem) hv9 hKs hgok (by first | units_room | exact Nat.le_of_ble_eq_true rfl) ?_
  k_steps
end Mine
set_option maxRecDepth 100000 in
set_option maxHeartbeats 8000000 in
theorem PySem.Challenge.cw_ov0049_01_holds : PySem.Challenge.rw_ov0049_01.Holds :=
  Mine.law15
